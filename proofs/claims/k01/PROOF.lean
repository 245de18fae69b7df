import PyProof.Rows.All
import HandS.ForMost
import HandS.Exc
import HandS.ExcCtx
import HandS.Hot
import HandS.TupAny
import HandS.Flow
import HandS.WordsExc
import HandS.ForExc
import HandS.Style
import HandS.NoneIn
import PyProof.Rows.SeqMore
import HandS.Deep
import HandS.TupMul
import HandS.Text
import HandS.Dict
import HandS.TryOnly
import HandS.Codes
import HandS.Comp
import HandS.Small
import HandS.Ends
import HandS.EndBits
import HandS.IsInst
import PyProof.Rows.StrMeet
import KE.GoesEnum
import KE.GoesEnumKw
import KE.GoesZip
import HandS.SortKw
import HandS.Zip
import HandS.Defaults
import HandS.Rev
import HandS.More
import HandS.SetKeys
import HandS.Strs
import PyProof.Rows.SortShellAny
import PyProof.WalkInts
import KE.SortData
import HandS.DictTup
import HandS.ExcOwn
import HandS.NamedTupGet
import HandS.ExcIs
import HandS.ExcField
import PyProof.ReprLen
import PyProof.P3Eq
import KE.SortKeyHeap
import HandS.ExcInit
import HandS.ClsMeth
import KE.KTab
import HandS.TupSets
import PyProof.ListMulAny
import PyProof.FString5
import KE.DataCmp
import KE.KDictSum
import HandS.Conv
import HandS.ExcValue
import PyProof.Transfer
import PyProof.DictMoreH
import KE.KExcInit
import KE.KExcLine
import PyProof.FitsInt
import PyProof.Rows.RegStrFacts
import PyProof.ReprRoads
import PyProof.FitsReplace
import KE.IntTextLaws
import KE.KWords
import PyProof.StrLawsTight
import PyProof.Rows.StrSplitJoin
import PyProof.Rows.StrSplitCount
import KE.KIntText
import PySem.Challenge.RW_pathbook_k01_names_numbers_days_and_rows
set_option Elab.async false
set_option linter.all false
set_option maxRecDepth 100000
set_option maxHeartbeats 4000000
namespace L3
open PySem PySem.Spec PyProof.Rows L2
noncomputable abbrev Sl := L2.St
theorem takesN0 {X : Cx} : L2N.Takes X (fun _ _ _ _ => False) := fun _ _ x => by
  obtain ⟨_, _, _, _, _, _, _, _, _, _, _, _, _, _, _, _, z⟩ := x
  exact z.elim
noncomputable def Pfx (A A' : List Addr) : Prop := ∀ (k : Nat) (a : Addr), A[k]? = some a → A'[k]? = some a
inductive D where
  | non | bl (b : Bool) | int (i : Int) | str (x : Str)
  | lst (xs : List D) | tup (xs : List D)
  | kl (xs : List D) | kt (xs : List D)
  | dK (ks : List Key) (xs : List D)
  | dT (ks : List (List Key)) (xs : List D)
  | wK (ks : List Key) (xs : List D)
  | wT (ks : List (List Key)) (xs : List D)
  | fn (x : Str)
  | exc (c : Addr) (ns : List Str) (xs : List D)
noncomputable def ExH (c : Addr) (d : Option Addr) (a : Addr) : HO := .ext fun h => ∃ (oe : Obj) (vs : Array Value), h.get? a = some oe ∧ L2N.Zn (.ref c) d oe ∧ oe.data = .fields vs
mutual
inductive Rp (K : PySem.W.Frag) (H : Hp) : V → D → Prop
  | non : Rp K H .non .non
  | bl (b : Bool) : Rp K H (.bl b) (.bl b)
  | int (i : Int) : Rp K H (.int i) (.int i)
  | str (x : Str) : Rp K H (.str x) (.str x)
  | lst {a : Addr} {vs : List V} {ds : List D} : H a = some (.lst vs) → Rps K H vs ds → Rp K H (.ref a) (.lst ds)
  | tup {a : Addr} {vs : List V} {ds : List D} : H a = some (.tup vs) → Rps K H vs ds → Rp K H (.ref a) (.tup ds)
  | kl {a : Addr} {vs : List V} {ds : List D} : SqL K H a vs → Rps K H vs ds → Rp K H (.ref a) (.kl ds)
  | kt {a : Addr} {vs : List V} {ds : List D} : SqT K H a vs → Rps K H vs ds → Rp K H (.ref a) (.kt ds)
  | dK {a : Addr} {ks : List Key} {vs : List V} {ds : List D} : Rd H a (.dK (ks.zip vs)) → ks.length = vs.length → Rps K H vs ds → Rp K H (.ref a) (.dK ks ds)
  | dT {a : Addr} {ks : List (List Key)} {vs : List V} {ds : List D} : Rd H a (.dT (ks.zip vs)) → ks.length = vs.length → Rps K H vs ds → Rp K H (.ref a) (.dT ks ds)
  | wK {a : Addr} {o : Obj} {ks : List Key} {vs : List V} {ds : List D} : H a = some (.frz o (.dK (ks.zip vs))) → ks.length = vs.length → Rps K H vs ds → Rp K H (.ref a) (.wK ks ds)
  | wT {a : Addr} {o : Obj} {ks : List (List Key)} {vs : List V} {ds : List D} : H a = some (.frz o (.dT (ks.zip vs))) → ks.length = vs.length → Rps K H vs ds → Rp K H (.ref a) (.wT ks ds)
  | fn {a : Addr} (x : Str) : PySem.W.nsIn K mainGlobals x = some (some (.ref a)) → Rp K H (.ref a) (.fn x)
  | exc {a c : Addr} {d : Option Addr} {ns : List Str} {vs : List V} {ds : List D} : H a = some (ExH c d a) → (∀ dx, d = some dx → H dx = some (.xd (ns.zip vs))) → (d = none ↔ ns = []) → ns.length = vs.length → Rps K H vs ds → Rp K H (.ref a) (.exc c ns ds)
inductive Rps (K : PySem.W.Frag) (H : Hp) : List V → List D → Prop
  | nil : Rps K H [] []
  | cons {v : V} {vs : List V} {d : D} {ds : List D} : Rp K H v d → Rps K H vs ds → Rps K H (v :: vs) (d :: ds)
end
theorem Rd.mono {H H' : Hp} (h : Same H H') {a : Addr} {u : HO} (r : Rd H a u) : Rd H' a u := by
  rcases r with r | ⟨o, r⟩
  · exact .inl (h _ _ r)
  · exact .inr ⟨o, h _ _ r⟩
theorem sqT_mono {K : PySem.W.Frag} {H H' : Hp} {a : Addr} {xs : List V} (e : Same H H') (h : SqT K H a xs) : SqT K H' a xs := by
  rcases h with h | h
  · exact .inl (Rd.mono e h)
  · exact .inr h
theorem sqL_mono {K : PySem.W.Frag} {H H' : Hp} {a : Addr} {xs : List V} (e : Same H H') (h : SqL K H a xs) : SqL K H' a xs := by
  rcases h with h | h
  · exact .inl (Rd.mono e h)
  · exact .inr h
mutual
theorem Rp.mono {K : PySem.W.Frag} {H H' : Hp} (h : Same H H') : ∀ {v : V} {d : D}, Rp K H v d → Rp K H' v d
  | _, _, .non => .non
  | _, _, .bl b => .bl b
  | _, _, .int i => .int i
  | _, _, .str x => .str x
  | _, _, .lst q r => .lst (h _ _ q) (Rps.mono h r)
  | _, _, .tup q r => .tup (h _ _ q) (Rps.mono h r)
  | _, _, .kl q r => .kl (sqL_mono h q) (Rps.mono h r)
  | _, _, .kt q r => .kt (sqT_mono h q) (Rps.mono h r)
  | _, _, .dK q l r => .dK (Rd.mono h q) l (Rps.mono h r)
  | _, _, .dT q l r => .dT (Rd.mono h q) l (Rps.mono h r)
  | _, _, .wK q l r => .wK (h _ _ q) l (Rps.mono h r)
  | _, _, .wT q l r => .wT (h _ _ q) l (Rps.mono h r)
  | _, _, .fn f e => .fn f e
  | _, _, .exc q1 q2 q3 q4 r => .exc (h _ _ q1) (fun dx e => h _ _ (q2 dx e)) q3 q4 (Rps.mono h r)
theorem Rps.mono {K : PySem.W.Frag} {H H' : Hp} (h : Same H H') : ∀ {vs : List V} {ds : List D}, Rps K H vs ds → Rps K H' vs ds
  | _, _, .nil => .nil
  | _, _, .cons q r => .cons (Rp.mono h q) (Rps.mono h r)
end
theorem Rps.length {K : PySem.W.Frag} {H : Hp} : ∀ {vs : List V} {ds : List D}, Rps K H vs ds → vs.length = ds.length
  | _, _, .nil => rfl
  | _, _, .cons _ r => congrArg (· + 1) (Rps.length r)
theorem Rps.append {K : PySem.W.Frag} {H : Hp} : ∀ {vs ws : List V} {ds es : List D}, Rps K H vs ds → Rps K H ws es → Rps K H (vs ++ ws) (ds ++ es)
  | _, _, _, _, .nil, s => s
  | _, _, _, _, .cons q r, s => .cons q (Rps.append r s)
theorem Rps.get' {K : PySem.W.Frag} {H : Hp} : ∀ {vs : List V} {ds : List D} {i : Nat} {d : D}, Rps K H vs ds → ds[i]? = some d → ∃ v, vs[i]? = some v ∧ Rp K H v d
  | _, _, _, _, .nil, e => by simp at e
  | _, _, 0, _, .cons q _, e => by simp at e; subst e; exact ⟨_, rfl, q⟩
  | _, _, i + 1, d, .cons _ r, e => by
    obtain ⟨v, h1, h2⟩ := Rps.get' (i := i) (d := d) r (by simpa using e)
    exact ⟨v, by simpa using h1, h2⟩
theorem Rps.take {K : PySem.W.Frag} {H : Hp} : ∀ {vs : List V} {ds : List D} (n : Nat), Rps K H vs ds → Rps K H (vs.take n) (ds.take n)
  | _, _, 0, _ => .nil
  | _, _, _ + 1, .nil => .nil
  | _, _, n + 1, .cons q r => .cons q (Rps.take n r)
theorem Rps.drop {K : PySem.W.Frag} {H : Hp} : ∀ {vs : List V} {ds : List D} (n : Nat), Rps K H vs ds → Rps K H (vs.drop n) (ds.drop n)
  | _, _, 0, q => q
  | _, _, _ + 1, .nil => .nil
  | _, _, n + 1, .cons _ r => Rps.drop n r
inductive Nd where
  | lst | dK (ks : List Key) | dT (ks : List (List Key)) | ins (C dx : Addr) (ks : List Str)
noncomputable def Nd.ho : Nd → List V → HO
  | .lst, vs => .lst vs
  | .dK ks, vs => .dK (ks.zip vs)
  | .dT ks, vs => .dT (ks.zip vs)
  | .ins C dx ks, vs => .ins C dx (ks.zip vs)
noncomputable def Nd.len : Nd → Nat → Prop
  | .lst, _ => True
  | .dK ks, n => ks.length = n
  | .dT ks, n => ks.length = n
  | .ins _ _ ks, n => ks.length = n
noncomputable def Nd.uniq : Nd → Prop
  | .lst => True
  | .dK ks => ks.Nodup
  | .dT ks => ks.Nodup
  | .ins _ _ ks => ks.Nodup
noncomputable def Nd.fits (n : Nd) (m : Nat) : Prop := n.len m ∧ n.uniq
structure On (H : Hp) (b : Addr) : Prop where
  ex : ∃ (n : Nd) (vs : List V), H b = some (n.ho vs)
theorem On.ne {H : Hp} {b : Addr} (h : On H b) : H b ≠ none := by
  obtain ⟨n, vs, e⟩ := h.ex
  rw [e]; simp
instance {H : Hp} {b : Addr} : CoeFun (On H b) (fun _ => H b = none → False) := ⟨fun h => h.ne⟩
instance {H : Hp} {b : Addr} : Coe (On H b) (H b ≠ none) := ⟨On.ne⟩
structure Lo (H : Hp) (b : Addr) : Prop where
  or : H b = none ∨ (∃ xs, H b = some (.tup xs)) ∨ ∃ fs, H b = some (.xd fs)
theorem Lo.no {H : Hp} {b : Addr} (h : Lo H b) (o : On H b) : False := by
  obtain ⟨n, vs, e⟩ := o.ex
  rcases h.or with h | ⟨xs, h⟩ | ⟨xs, h⟩
  · rw [e] at h; cases h
  · rw [e] at h; cases n <;> cases h
  · rw [e] at h; cases n <;> cases h
instance {H : Hp} {b : Addr} : Coe (H b = none) (Lo H b) := ⟨fun h => ⟨.inl h⟩⟩
inductive SV where
  | dat (d : D) | node (n : Nd) (xs : List SV) | cell (k : Nat)
noncomputable abbrev SV.own (xs : List SV) : SV := .node .lst xs
mutual
noncomputable def SV.peek : SV → Option D
  | .dat d => some d
  | .node .lst xs => (peeks xs).map D.lst
  | .node (.dK ks) xs => (peeks xs).map (D.dK ks)
  | .node (.dT ks) xs => (peeks xs).map (D.dT ks)
  | .node (.ins _ _ _) _ => none
  | .cell _ => none
noncomputable def peeks : List SV → Option (List D)
  | [] => some []
  | x :: r => (x.peek).bind fun d => (peeks r).map fun ds => d :: ds
end
mutual
inductive RS (K : PySem.W.Frag) (Φ H : Hp) (A : List Addr) : V → SV → List Addr → Prop
  | dat {v : V} {d : D} : Rp K Φ v d → RS K Φ H A v (.dat d) []
  | node {a : Addr} {n : Nd} {vs : List V} {xs : List SV} {F : List Addr} : H a = some (n.ho vs) → n.fits vs.length → Φ a = none → RSs K Φ H A vs xs F → RS K Φ H A (.ref a) (.node n xs) (a :: F)
  | cell {k : Nat} {a : Addr} : A[k]? = some a → RS K Φ H A (.ref a) (.cell k) []
inductive RSs (K : PySem.W.Frag) (Φ H : Hp) (A : List Addr) : List V → List SV → List Addr → Prop
  | nil : RSs K Φ H A [] [] []
  | cons {v : V} {vs : List V} {x : SV} {xs : List SV} {F G : List Addr} : RS K Φ H A v x F → RSs K Φ H A vs xs G → RSs K Φ H A (v :: vs) (x :: xs) (F ++ G)
end
mutual
theorem RS.frame {K : PySem.W.Frag} {Φ H Φ' H' : Hp} {A A' : List Addr} (le : Same Φ Φ') (hA : Pfx A A') :
    ∀ {v : V} {x : SV} {F : List Addr}, RS K Φ H A v x F → (∀ b ∈ F, H' b = H b) → (∀ b ∈ F, Φ' b = none) → RS K Φ' H' A' v x F
  | _, _, _, .dat r, _, _ => .dat (r.mono le)
  | _, _, _, .node (a := a) e f p r, h1, h2 =>
    .node ((h1 a (List.mem_cons_self ..)).trans e) f (h2 a (List.mem_cons_self ..)) (RSs.frame le hA r (fun b hb => h1 b (List.mem_cons_of_mem _ hb)) fun b hb => h2 b (List.mem_cons_of_mem _ hb))
  | _, _, _, .cell e, _, _ => .cell (hA _ _ e)
theorem RSs.frame {K : PySem.W.Frag} {Φ H Φ' H' : Hp} {A A' : List Addr} (le : Same Φ Φ') (hA : Pfx A A') :
    ∀ {vs : List V} {xs : List SV} {F : List Addr}, RSs K Φ H A vs xs F → (∀ b ∈ F, H' b = H b) → (∀ b ∈ F, Φ' b = none) → RSs K Φ' H' A' vs xs F
  | _, _, _, .nil, _, _ => .nil
  | _, _, _, .cons q r, h1, h2 => .cons (RS.frame le hA q (fun b hb => h1 b (List.mem_append_left _ hb)) fun b hb => h2 b (List.mem_append_left _ hb))
      (RSs.frame le hA r (fun b hb => h1 b (List.mem_append_right _ hb)) fun b hb => h2 b (List.mem_append_right _ hb))
end
mutual
theorem RS.there {K : PySem.W.Frag} {Φ H : Hp} {A : List Addr} : ∀ {v : V} {x : SV} {F : List Addr}, RS K Φ H A v x F → ∀ b ∈ F, On H b ∧ Φ b = none
  | _, _, _, .dat r, b, hb => by simp at hb
  | _, _, _, .node (a := a) e f p r, b, hb => by
    rcases List.mem_cons.mp hb with rfl | hb
    · exact ⟨⟨_, _, e⟩, p⟩
    · exact RSs.there r b hb
  | _, _, _, .cell e, b, hb => by simp at hb
theorem RSs.there {K : PySem.W.Frag} {Φ H : Hp} {A : List Addr} : ∀ {vs : List V} {xs : List SV} {F : List Addr}, RSs K Φ H A vs xs F → ∀ b ∈ F, On H b ∧ Φ b = none
  | _, _, _, .nil, b, hb => by simp at hb
  | _, _, _, .cons q r, b, hb => by
    rcases List.mem_append.mp hb with hb | hb
    · exact RS.there q b hb
    · exact RSs.there r b hb
end
theorem RSs.length {K : PySem.W.Frag} {Φ H : Hp} {A : List Addr} : ∀ {vs : List V} {xs : List SV} {F : List Addr}, RSs K Φ H A vs xs F → vs.length = xs.length
  | _, _, _, .nil => rfl
  | _, _, _, .cons _ r => congrArg (· + 1) r.length
mutual
theorem RS.rp {K : PySem.W.Frag} {Φ H : Hp} {A : List Addr} (le : Same Φ H) : ∀ {v : V} {x : SV} {F : List Addr} {d : D}, RS K Φ H A v x F → x.peek = some d → Rp K H v d
  | _, _, _, _, .dat r, h => by cases h; exact r.mono le
  | _, _, _, d, .node (a := a) (n := n) (vs := vs) (xs := xs) e f p r, h => by
    cases n with
    | lst =>
      have h : (peeks xs).map D.lst = some d := by rw [← h]; rfl
      cases e2 : peeks xs with
      | none => rw [e2] at h; cases h
      | some ds =>
        rw [e2] at h; cases h
        exact .lst e (RSs.rp le r e2)
    | dK ks =>
      have h : (peeks xs).map (D.dK ks) = some d := by rw [← h]; rfl
      cases e2 : peeks xs with
      | none => rw [e2] at h; cases h
      | some ds =>
        rw [e2] at h; cases h
        exact .dK (.inl e) f.1 (RSs.rp le r e2)
    | dT ks =>
      have h : (peeks xs).map (D.dT ks) = some d := by rw [← h]; rfl
      cases e2 : peeks xs with
      | none => rw [e2] at h; cases h
      | some ds =>
        rw [e2] at h; cases h
        exact .dT (.inl e) f.1 (RSs.rp le r e2)
    | ins C dx ks =>
      have h : (none : Option D) = some d := by rw [← h]; rfl
      cases h
  | _, _, _, _, .cell e, h => by cases h
theorem RSs.rp {K : PySem.W.Frag} {Φ H : Hp} {A : List Addr} (le : Same Φ H) : ∀ {vs : List V} {xs : List SV} {F : List Addr} {ds : List D}, RSs K Φ H A vs xs F → peeks xs = some ds → Rps K H vs ds
  | _, _, _, ds, .nil, h => by
    have h : (some [] : Option (List D)) = some ds := by rw [← h]; rfl
    cases h; exact .nil
  | _, _, _, ds, .cons (x := x) (xs := xs) q r, h => by
    have h : (x.peek).bind (fun d => (peeks xs).map fun ds => d :: ds) = some ds := by rw [← h]; rfl
    cases e : x.peek with
    | none => rw [e] at h; cases h
    | some d =>
      cases e2 : peeks xs with
      | none => rw [e, e2] at h; cases h
      | some es =>
        rw [e, e2] at h; cases h
        exact .cons (RS.rp le q e) (RSs.rp le r e2)
end
noncomputable def frz (Φ H : Hp) (F : List Addr) : Hp := fun b => if b ∈ F then H b else Φ b
theorem frz_in {Φ H : Hp} {F : List Addr} {b : Addr} (h : b ∈ F) : frz Φ H F b = H b := if_pos h
theorem frz_out {Φ H : Hp} {F : List Addr} {b : Addr} (h : b ∉ F) : frz Φ H F b = Φ b := if_neg h
theorem frz_le {Φ H : Hp} {F : List Addr} (h : ∀ b ∈ F, Φ b = none) : Same Φ (frz Φ H F) := fun b o e => by
  by_cases hb : b ∈ F
  · rw [h b hb] at e; cases e
  · rw [frz_out hb]; exact e
theorem frz_sub {Φ H : Hp} {F : List Addr} (le : Same Φ H) : Same (frz Φ H F) H := fun b o e => by
  by_cases hb : b ∈ F
  · rw [frz_in hb] at e; exact e
  · rw [frz_out hb] at e; exact le _ _ e
mutual
theorem RS.freeze {K : PySem.W.Frag} {Φ H : Hp} {A : List Addr} {G : List Addr} (hG : ∀ b ∈ G, Φ b = none) : ∀ {v : V} {x : SV} {F : List Addr} {d : D}, RS K Φ H A v x F → x.peek = some d → (∀ b ∈ F, b ∈ G) → Rp K (frz Φ H G) v d
  | _, _, _, _, .dat r, h, _ => by cases h; exact r.mono (frz_le hG)
  | _, _, _, d, .node (a := a) (n := n) (vs := vs) (xs := xs) e f p r, h, hF => by
    have ea : frz Φ H G a = some (n.ho vs) := by rw [frz_in (hF a (List.mem_cons_self ..))]; exact e
    have hF' := fun b hb => hF b (List.mem_cons_of_mem _ hb)
    cases n with
    | lst =>
      have h : (peeks xs).map D.lst = some d := by rw [← h]; rfl
      cases e2 : peeks xs with
      | none => rw [e2] at h; cases h
      | some ds =>
        rw [e2] at h; cases h
        exact .lst ea (RSs.freeze hG r e2 hF')
    | dK ks =>
      have h : (peeks xs).map (D.dK ks) = some d := by rw [← h]; rfl
      cases e2 : peeks xs with
      | none => rw [e2] at h; cases h
      | some ds =>
        rw [e2] at h; cases h
        exact .dK (.inl ea) f.1 (RSs.freeze hG r e2 hF')
    | dT ks =>
      have h : (peeks xs).map (D.dT ks) = some d := by rw [← h]; rfl
      cases e2 : peeks xs with
      | none => rw [e2] at h; cases h
      | some ds =>
        rw [e2] at h; cases h
        exact .dT (.inl ea) f.1 (RSs.freeze hG r e2 hF')
    | ins C dx ks =>
      have h : (none : Option D) = some d := by rw [← h]; rfl
      cases h
  | _, _, _, _, .cell e, h, _ => by cases h
theorem RSs.freeze {K : PySem.W.Frag} {Φ H : Hp} {A : List Addr} {G : List Addr} (hG : ∀ b ∈ G, Φ b = none) : ∀ {vs : List V} {xs : List SV} {F : List Addr} {ds : List D}, RSs K Φ H A vs xs F → peeks xs = some ds → (∀ b ∈ F, b ∈ G) → Rps K (frz Φ H G) vs ds
  | _, _, _, ds, .nil, h, _ => by
    have h : (some [] : Option (List D)) = some ds := by rw [← h]; rfl
    cases h; exact .nil
  | _, _, _, ds, .cons (x := x) (xs := xs) q r, h, hF => by
    have h : (x.peek).bind (fun d => (peeks xs).map fun ds => d :: ds) = some ds := by rw [← h]; rfl
    cases e : x.peek with
    | none => rw [e] at h; cases h
    | some d =>
      cases e2 : peeks xs with
      | none => rw [e, e2] at h; cases h
      | some es =>
        rw [e, e2] at h; cases h
        exact .cons (RS.freeze hG q e fun b hb => hF b (List.mem_append_left _ hb)) (RSs.freeze hG r e2 fun b hb => hF b (List.mem_append_right _ hb))
end
structure Sto where
  ρ : List (Option SV)
  μ : List SV
inductive RO (K : PySem.W.Frag) (Φ H : Hp) (A : List Addr) : Sl → List (Option SV) → List Addr → Prop
  | nil : RO K Φ H A [] [] []
  | non {o : Option V} {σ : Sl} {ρ : List (Option SV)} {F : List Addr} : RO K Φ H A σ ρ F → RO K Φ H A (o :: σ) (none :: ρ) F
  | som {v : V} {σ : Sl} {x : SV} {ρ : List (Option SV)} {F G : List Addr} : RS K Φ H A v x F → RO K Φ H A σ ρ G → RO K Φ H A (some v :: σ) (some x :: ρ) (F ++ G)
inductive RC (K : PySem.W.Frag) (Φ H : Hp) (A : List Addr) : List Addr → List SV → List Addr → Prop
  | nil : RC K Φ H A [] [] []
  | cons {a : Addr} {B : List Addr} {x : SV} {μ : List SV} {F G : List Addr} : RS K Φ H A (.ref a) x (a :: F) → RC K Φ H A B μ G → RC K Φ H A (a :: B) (x :: μ) ((a :: F) ++ G)
theorem RO.frame {K : PySem.W.Frag} {Φ H Φ' H' : Hp} {A A' : List Addr} (le : Same Φ Φ') (hA : Pfx A A') :
    ∀ {σ : Sl} {ρ : List (Option SV)} {F : List Addr}, RO K Φ H A σ ρ F → (∀ b ∈ F, H' b = H b) → (∀ b ∈ F, Φ' b = none) → RO K Φ' H' A' σ ρ F
  | _, _, _, .nil, _, _ => .nil
  | _, _, _, .non r, h1, h2 => .non (r.frame le hA h1 h2)
  | _, _, _, .som q r, h1, h2 => .som (q.frame le hA (fun b hb => h1 b (List.mem_append_left _ hb)) fun b hb => h2 b (List.mem_append_left _ hb))
      (r.frame le hA (fun b hb => h1 b (List.mem_append_right _ hb)) fun b hb => h2 b (List.mem_append_right _ hb))
theorem RC.frame {K : PySem.W.Frag} {Φ H Φ' H' : Hp} {A A' : List Addr} (le : Same Φ Φ') (hA : Pfx A A') :
    ∀ {B : List Addr} {μ : List SV} {F : List Addr}, RC K Φ H A B μ F → (∀ b ∈ F, H' b = H b) → (∀ b ∈ F, Φ' b = none) → RC K Φ' H' A' B μ F
  | _, _, _, .nil, _, _ => .nil
  | _, _, _, .cons q r, h1, h2 => .cons (q.frame le hA (fun b hb => h1 b (List.mem_append_left _ hb)) fun b hb => h2 b (List.mem_append_left _ hb))
      (r.frame le hA (fun b hb => h1 b (List.mem_append_right _ hb)) fun b hb => h2 b (List.mem_append_right _ hb))
theorem RO.there {K : PySem.W.Frag} {Φ H : Hp} {A : List Addr} : ∀ {σ : Sl} {ρ : List (Option SV)} {F : List Addr}, RO K Φ H A σ ρ F → ∀ b ∈ F, On H b ∧ Φ b = none
  | _, _, _, .nil, b, hb => by simp at hb
  | _, _, _, .non r, b, hb => r.there b hb
  | _, _, _, .som q r, b, hb => by
    rcases List.mem_append.mp hb with hb | hb
    · exact q.there b hb
    · exact r.there b hb
theorem RC.there {K : PySem.W.Frag} {Φ H : Hp} {A : List Addr} : ∀ {B : List Addr} {μ : List SV} {F : List Addr}, RC K Φ H A B μ F → ∀ b ∈ F, On H b ∧ Φ b = none
  | _, _, _, .nil, b, hb => by simp at hb
  | _, _, _, .cons q r, b, hb => by
    rcases List.mem_append.mp hb with hb | hb
    · exact q.there b hb
    · exact r.there b hb
theorem RO.at {K : PySem.W.Frag} {Φ H : Hp} {A : List Addr} : ∀ {σ : Sl} {ρ : List (Option SV)} {F : List Addr} {i : Nat} {x : SV}, RO K Φ H A σ ρ F → ρ[i]? = some (some x) →
    ∃ v F1 Fi F2, σ[i]? = some (some v) ∧ F = F1 ++ (Fi ++ F2) ∧ RS K Φ H A v x Fi ∧
      ∀ {Φ' H' : Hp} {A' : List Addr}, Same Φ Φ' → Pfx A A' → (∀ b ∈ F1 ++ F2, H' b = H b) → (∀ b ∈ F1 ++ F2, Φ' b = none) →
        (∀ {w : V} {y : SV} {G : List Addr}, RS K Φ' H' A' w y G → RO K Φ' H' A' (σ.set i (some w)) (ρ.set i (some y)) (F1 ++ (G ++ F2))) ∧ (∀ o, RO K Φ' H' A' (σ.set i o) (ρ.set i none) (F1 ++ F2))
  | _, _, _, _, _, .nil, e => by simp at e
  | _, _, _, 0, x, .non r, e => by simp at e
  | _, _, _, 0, x, .som (v := v) (F := F) (G := G) q r, e => by
    simp at e; subst e
    refine ⟨v, [], F, G, rfl, rfl, q, fun le hA h1 h2 => ⟨fun y => ?_, fun o => ?_⟩⟩
    · rw [List.nil_append]; exact .som y (r.frame le hA h1 h2)
    · exact .non (r.frame le hA h1 h2)
  | _, _, _, i + 1, x, .non (o := o) r, e => by
    obtain ⟨v, F1, Fi, F2, e1, e2, q, up⟩ := RO.at (i := i) (x := x) r (by simpa using e)
    refine ⟨v, F1, Fi, F2, by simpa using e1, e2, q, fun le hA h1 h2 => ?_⟩
    obtain ⟨u1, u2⟩ := up le hA h1 h2
    exact ⟨fun y => .non (u1 y), fun o' => .non (u2 o')⟩
  | _, _, _, i + 1, x, .som (v := v0) (F := F0) (G := G0) q0 r, e => by
    obtain ⟨v, F1, Fi, F2, e1, e2, q, up⟩ := RO.at (i := i) (x := x) r (by simpa using e)
    refine ⟨v, F0 ++ F1, Fi, F2, by simpa using e1, by rw [e2, List.append_assoc], q, fun le hA h1 h2 => ?_⟩
    have a1 : ∀ b ∈ F0, b ∈ F0 ++ F1 ++ F2 := fun b hb => List.mem_append_left _ (List.mem_append_left _ hb)
    have a2 : ∀ b ∈ F1 ++ F2, b ∈ F0 ++ F1 ++ F2 := fun b hb => by rw [List.append_assoc]; exact List.mem_append_right _ hb
    obtain ⟨u1, u2⟩ := up le hA (fun b hb => h1 b (a2 b hb)) (fun b hb => h2 b (a2 b hb))
    have q' := q0.frame le hA (fun b hb => h1 b (a1 b hb)) (fun b hb => h2 b (a1 b hb))
    refine ⟨fun {w y G} z => ?_, fun o' => ?_⟩
    · rw [List.append_assoc]; exact .som q' (u1 z)
    · rw [List.append_assoc]; exact .som q' (u2 o')
theorem RO.put {K : PySem.W.Frag} {Φ H : Hp} {A : List Addr} : ∀ {σ : Sl} {ρ : List (Option SV)} {F : List Addr} {i : Nat}, RO K Φ H A σ ρ F → i < ρ.length → ∀ {w : V} {y : SV} {G : List Addr}, RS K Φ H A w y G →
    ∃ F1 F2, (∃ Fi, F = F1 ++ (Fi ++ F2)) ∧ RO K Φ H A (σ.set i (some w)) (ρ.set i (some y)) (F1 ++ (G ++ F2))
  | _, _, _, _, .nil, e => by simp at e
  | _, _, _, 0, .non (F := F) r, e => fun q => ⟨[], F, ⟨[], rfl⟩, by rw [List.nil_append]; exact .som q r⟩
  | _, _, _, 0, .som (F := F) (G := G) _ r, e => fun q => ⟨[], G, ⟨F, rfl⟩, by rw [List.nil_append]; exact .som q r⟩
  | _, _, _, i + 1, .non r, e => fun q => by
    obtain ⟨F1, F2, ⟨Fi, e1⟩, z⟩ := RO.put (i := i) r (by simpa using e) q
    exact ⟨F1, F2, ⟨Fi, e1⟩, .non z⟩
  | _, _, _, i + 1, .som (F := F0) q0 r, e => fun q => by
    obtain ⟨F1, F2, ⟨Fi, e1⟩, z⟩ := RO.put (i := i) r (by simpa using e) q
    refine ⟨F0 ++ F1, F2, ⟨Fi, by rw [e1, List.append_assoc]⟩, ?_⟩
    rw [List.append_assoc]
    exact .som q0 z
theorem RC.at {K : PySem.W.Frag} {Φ H : Hp} {A : List Addr} : ∀ {B : List Addr} {μ : List SV} {F : List Addr} {i : Nat} {x : SV}, RC K Φ H A B μ F → μ[i]? = some x →
    ∃ a F1 Fi F2, B[i]? = some a ∧ F = F1 ++ ((a :: Fi) ++ F2) ∧ RS K Φ H A (.ref a) x (a :: Fi) ∧
      ∀ {Φ' H' : Hp} {A' : List Addr}, Same Φ Φ' → Pfx A A' → (∀ b ∈ F1 ++ F2, H' b = H b) → (∀ b ∈ F1 ++ F2, Φ' b = none) →
        ∀ {y : SV} {G : List Addr}, RS K Φ' H' A' (.ref a) y (a :: G) → RC K Φ' H' A' B (μ.set i y) (F1 ++ ((a :: G) ++ F2))
  | _, _, _, _, _, .nil, e => by simp at e
  | _, _, _, 0, x, .cons (a := a) (F := F) (G := G) q r, e => by
    simp at e; subst e
    exact ⟨a, [], F, G, rfl, rfl, q, fun le hA h1 h2 => fun y => .cons y (r.frame le hA h1 h2)⟩
  | _, _, _, i + 1, x, .cons (a := a0) (F := F0) (G := G0) q0 r, e => by
    obtain ⟨a, F1, Fi, F2, e1, e2, q, up⟩ := RC.at (i := i) (x := x) r (by simpa using e)
    refine ⟨a, (a0 :: F0) ++ F1, Fi, F2, by simpa using e1, by rw [e2, List.append_assoc], q, fun le hA h1 h2 => ?_⟩
    have m1 : ∀ b ∈ a0 :: F0, b ∈ ((a0 :: F0) ++ F1) ++ F2 := fun b hb => List.mem_append_left _ (List.mem_append_left _ hb)
    have m2 : ∀ b ∈ F1 ++ F2, b ∈ ((a0 :: F0) ++ F1) ++ F2 := fun b hb => by rw [List.append_assoc]; exact List.mem_append_right _ hb
    intro y G z
    rw [List.append_assoc]
    exact .cons (q0.frame le hA (fun b hb => h1 b (m1 b hb)) (fun b hb => h2 b (m1 b hb))) (up le hA (fun b hb => h1 b (m2 b hb)) (fun b hb => h2 b (m2 b hb)) z)
theorem RC.snoc {K : PySem.W.Frag} {Φ H : Hp} {A : List Addr} {a : Addr} {x : SV} {Fa : List Addr} (q : RS K Φ H A (.ref a) x (a :: Fa)) : ∀ {B : List Addr} {μ : List SV} {F : List Addr}, RC K Φ H A B μ F → RC K Φ H A (B ++ [a]) (μ ++ [x]) (F ++ (a :: Fa))
  | _, _, _, .nil => by
    have := RC.cons q (.nil (K := K) (Φ := Φ) (H := H) (A := A))
    simpa using this
  | _, _, _, .cons q0 r => by
    rw [List.append_assoc]
    exact .cons q0 (RC.snoc q r)
theorem RC.length {K : PySem.W.Frag} {Φ H : Hp} {A : List Addr} : ∀ {B : List Addr} {μ : List SV} {F : List Addr}, RC K Φ H A B μ F → B.length = μ.length
  | _, _, _, .nil => rfl
  | _, _, _, .cons _ r => congrArg (· + 1) r.length
structure Stands (K : PySem.W.Frag) (S : Sto) (σ : Sl) (H Φ : Hp) (A F G : List Addr) : Prop where
  le : Same Φ H
  ro : RO K Φ H A σ S.ρ F
  rc : RC K Φ H A A S.μ G
  nd : (F ++ G).Nodup
structure Step (F G : List Addr) (H Φ : Hp) (A : List Addr) (F' G' : List Addr) (H' Φ' : Hp) (A' : List Addr) : Prop where
  keep : ∀ b o, H b = some o → b ∉ G → H' b = some o
  le : Same Φ Φ'
  grow : ∀ b o, Φ' b = some o → Φ b = some o ∨ b ∈ F ∨ b ∈ G ∨ Lo H b
  ownF : ∀ b ∈ F', b ∈ F ∨ b ∈ G ∨ H b = none
  ownG : ∀ b ∈ G', b ∈ G ∨ H b = none
  live : ∀ b, H b ≠ none → H' b ≠ none
  cells : Pfx A A'
structure Run (F G : List Addr) (H Φ : Hp) (A : List Addr) (F' G' : List Addr) (H' Φ' : Hp) (A' : List Addr) : Prop where
  keep : ∀ b o, H b = some o → b ∉ F → b ∉ G → H' b = some o
  le : Same Φ Φ'
  grow : ∀ b o, Φ' b = some o → Φ b = some o ∨ b ∈ F ∨ b ∈ G ∨ Lo H b
  own : ∀ b, b ∈ F' ∨ b ∈ G' → b ∈ F ∨ b ∈ G ∨ H b = none
  live : ∀ b, H b ≠ none → H' b ≠ none
  cells : Pfx A A'
section
variable {F F1 F2 G G1 G2 A A1 A2 T T1 : List Addr} {H H1 H2 Φ Φ1 Φ2 : Hp}
theorem Pfx.refl : Pfx A A := fun _ _ e => e
theorem Pfx.trans (a : Pfx A A1) (b : Pfx A1 A2) : Pfx A A2 := fun k x e => b k x (a k x e)
theorem Step.refl : Step F G H Φ A F G H Φ A := ⟨fun _ _ e _ => e, fun _ _ e => e, fun _ _ e => .inl e, fun _ e => .inl e, fun _ e => .inl e, fun _ e => e, fun _ _ e => e⟩
theorem Step.trans (a : Step F G H Φ A (T ++ F1) G1 H1 Φ1 A1) (b : Step F1 G1 H1 Φ1 A1 (T1 ++ F2) G2 H2 Φ2 A2) : Step F G H Φ A (T ++ (T1 ++ F2)) G2 H2 Φ2 A2 where
  keep := fun c o e hn => by
    refine b.keep c o (a.keep c o e hn) fun hc => ?_
    rcases a.ownG c hc with h | h
    · exact hn h
    · rw [h] at e; cases e
  le := a.le.trans b.le
  grow := fun c o e => by
    rcases b.grow c o e with h | h | h | h
    · exact a.grow c o h
    · exact .inr ((a.ownF c (List.mem_append_right _ h)).imp_right fun z => z.imp_right fun z => ⟨.inl z⟩)
    · exact .inr (.inr ((a.ownG c h).imp_right fun z => ⟨.inl z⟩))
    · by_cases hg : c ∈ G
      · exact .inr (.inr (.inl hg))
      · refine .inr (.inr (.inr ⟨?_⟩))
        cases hc : H c with
        | none => exact .inl rfl
        | some u =>
          have hk := a.keep c u hc hg
          have h := h.or
          rw [hk] at h
          exact h.imp_left fun z => nomatch z
  ownF := fun c hc => by
    rcases List.mem_append.mp hc with hc | hc
    · exact a.ownF c (List.mem_append_left _ hc)
    · rcases b.ownF c hc with h | h | h
      · exact a.ownF c (List.mem_append_right _ h)
      · exact .inr (a.ownG c h)
      · by_cases hc : H c = none
        · exact .inr (.inr hc)
        · exact absurd h (a.live c hc)
  ownG := fun c hc => by
    rcases b.ownG c hc with h | h
    · exact a.ownG c h
    · by_cases hc : H c = none
      · exact .inr hc
      · exact absurd h (a.live c hc)
  live := fun c hc => b.live c (a.live c hc)
  cells := a.cells.trans b.cells
theorem Step.trans0 (a : Step F G H Φ A F1 G1 H1 Φ1 A1) (b : Step F1 G1 H1 Φ1 A1 F2 G2 H2 Φ2 A2) : Step F G H Φ A F2 G2 H2 Φ2 A2 := Step.trans (T := []) (T1 := []) a b
theorem Step.run (a : Step F G H Φ A F1 G1 H1 Φ1 A1) : Run F G H Φ A F1 G1 H1 Φ1 A1 :=
  ⟨fun b o e _ hn => a.keep b o e hn, a.le, a.grow, fun b hb => hb.elim (a.ownF b) fun h => .inr (a.ownG b h), a.live, a.cells⟩
theorem Run.trans (a : Run F G H Φ A F1 G1 H1 Φ1 A1) (b : Run F1 G1 H1 Φ1 A1 F2 G2 H2 Φ2 A2) : Run F G H Φ A F2 G2 H2 Φ2 A2 where
  keep := fun c o e hf hg => by
    have z : ∀ {P : Prop}, (c ∈ F ∨ c ∈ G ∨ H c = none) → P := fun h => by
      rcases h with h | h | h
      · exact absurd h hf
      · exact absurd h hg
      · rw [h] at e; cases e
    exact b.keep c o (a.keep c o e hf hg) (fun hc => z (a.own c (.inl hc))) fun hc => z (a.own c (.inr hc))
  le := a.le.trans b.le
  grow := fun c o e => by
    rcases b.grow c o e with h | h | h | h
    · exact a.grow c o h
    · exact .inr ((a.own c (.inl h)).imp_right fun z => z.imp_right fun z => ⟨.inl z⟩)
    · exact .inr ((a.own c (.inr h)).imp_right fun z => z.imp_right fun z => ⟨.inl z⟩)
    · by_cases hf : c ∈ F
      · exact .inr (.inl hf)
      · by_cases hg : c ∈ G
        · exact .inr (.inr (.inl hg))
        · refine .inr (.inr (.inr ⟨?_⟩))
          cases hc : H c with
          | none => exact .inl rfl
          | some u =>
            have hk := a.keep c u hc hf hg
            have h := h.or
            rw [hk] at h
            exact h.imp_left fun z => nomatch z
  own := fun c hc => by
    rcases b.own c hc with h | h | h
    · exact a.own c (.inl h)
    · exact a.own c (.inr h)
    · by_cases hc : H c = none
      · exact .inr (.inr hc)
      · exact absurd h (a.live c hc)
  live := fun c hc => b.live c (a.live c hc)
  cells := a.cells.trans b.cells
theorem Run.refl : Run F G H Φ A F G H Φ A := Step.refl.run
theorem Run.sub {F' G' : List Addr} (a : Run F G H Φ A F1 G1 H1 Φ1 A1) (h : ∀ b, b ∈ F' ∨ b ∈ G' → b ∈ F1 ∨ b ∈ G1) : Run F G H Φ A F' G' H1 Φ1 A1 := ⟨a.keep, a.le, a.grow, fun b hb => a.own b (h b hb), a.live, a.cells⟩
theorem Step.same (a : Step F1 G1 H1 Φ1 A1 F2 G2 H2 Φ2 A2) (hT : ∀ b ∈ T, On H1 b ∧ Φ1 b = none) (nd : (T ++ (F1 ++ G1)).Nodup) : (∀ b ∈ T, H2 b = H1 b) ∧ (∀ b ∈ T, Φ2 b = none) := by
  have no : ∀ b ∈ T, b ∉ F1 ∧ b ∉ G1 := fun b hb => by
    have := (List.nodup_append.mp nd).2.2 b hb
    exact ⟨fun h => this b (List.mem_append_left _ h) rfl, fun h => this b (List.mem_append_right _ h) rfl⟩
  refine ⟨fun b hb => ?_, fun b hb => ?_⟩
  · cases e : H1 b with
    | none => exact absurd e (hT b hb).1
    | some o => exact a.keep b o e (no b hb).2
  · cases e : Φ2 b with
    | none => rfl
    | some o =>
      rcases a.grow b o e with h | h | h | h
      · rw [(hT b hb).2] at h; cases h
      · exact absurd h (no b hb).1
      · exact absurd h (no b hb).2
      · exact (h.no (hT b hb).1).elim
theorem Step.apart (a : Step F1 G1 H1 Φ1 A1 F2 G2 H2 Φ2 A2) (hT : ∀ b ∈ T, H1 b ≠ none) (nd : (T ++ (F1 ++ G1)).Nodup) (nd2 : (F2 ++ G2).Nodup) : (T ++ (F2 ++ G2)).Nodup := by
  refine List.nodup_append.mpr ⟨(List.nodup_append.mp nd).1, nd2, fun x hx y hy e => ?_⟩
  subst e
  have n1 := (List.nodup_append.mp nd).2.2 x hx
  have no : x ∉ F1 ∧ x ∉ G1 := ⟨fun h => n1 x (List.mem_append_left _ h) rfl, fun h => n1 x (List.mem_append_right _ h) rfl⟩
  rcases List.mem_append.mp hy with h | h
  · rcases a.ownF x h with h | h | h
    · exact no.1 h
    · exact no.2 h
    · exact hT x hx h
  · rcases a.ownG x h with h | h
    · exact no.2 h
    · exact hT x hx h
end
noncomputable def SV.sub : SV → List Nat → Option SV
  | x, [] => some x
  | .node _ xs, k :: p => match xs[k]? with
    | some y => y.sub p
    | none => none
  | .dat _, _ :: _ => none
  | .cell _, _ :: _ => none
noncomputable def SV.putp : SV → List Nat → SV → SV
  | _, [], y => y
  | .node n xs, k :: p, y => match xs[k]? with
    | some z => .node n (xs.set k (z.putp p y))
    | none => .node n xs
  | .dat d, _ :: _, _ => .dat d
  | .cell k, _ :: _, _ => .cell k
inductive At (H : Hp) : V → List Nat → V → Prop
  | nil {v : V} : At H v [] v
  | cons {a : Addr} {n : Nd} {vs : List V} {k : Nat} {p : List Nat} {u v : V} : H a = some (n.ho vs) → n.fits vs.length → vs[k]? = some u → At H u p v → At H (.ref a) (k :: p) v
theorem zip_inj {α β : Type} : ∀ {ks ks' : List α} {vs ws : List β}, ks.length = vs.length → ks'.length = ws.length → ks.zip vs = ks'.zip ws → vs = ws
  | [], [], [], [], _, _, _ => rfl
  | _ :: _, _ :: _, _ :: _, _ :: _, h1, h2, e => by
    simp only [List.zip_cons_cons, List.cons.injEq, Prod.mk.injEq] at e
    rw [e.1.2, zip_inj (by simpa using h1) (by simpa using h2) e.2]
  | [], _ :: _, [], _ :: _, _, _, e => by simp at e
  | _ :: _, [], _ :: _, [], _, _, e => by simp at e
  | [], _, _ :: _, _, h, _, _ => by simp at h
  | _ :: _, _, [], _, h, _, _ => by simp at h
  | _, [], _, _ :: _, _, h, _ => by simp at h
  | _, _ :: _, _, [], _, h, _ => by simp at h
theorem Nd.inj {n m : Nd} {vs ws : List V} (hn : n.fits vs.length) (hm : m.fits ws.length) (e : n.ho vs = m.ho ws) : vs = ws := by
  cases n <;> cases m <;> simp only [Nd.ho] at e <;> try cases e
  · rfl
  · injection e with e; exact zip_inj hn.1 hm.1 e
  · injection e with e; exact zip_inj hn.1 hm.1 e
  · injection e with _ _ e; exact zip_inj hn.1 hm.1 e
theorem At.inj {H : Hp} {v0 u w : V} {p : List Nat} (a : At H v0 p u) (b : At H v0 p w) : u = w := by
  induction a with
  | nil => cases b; rfl
  | cons e f g _ ih =>
    cases b with
    | cons e' f' g' r' =>
      rw [e] at e'
      have := Nd.inj f f' (Option.some.inj e')
      subst this
      rw [g] at g'
      cases g'
      exact ih r'
theorem RSs.at {K : PySem.W.Frag} {Φ H : Hp} {A : List Addr} : ∀ {vs : List V} {xs : List SV} {F : List Addr} {k : Nat} {x : SV}, RSs K Φ H A vs xs F → xs[k]? = some x →
    ∃ v F1 Fi F2, vs[k]? = some v ∧ F = F1 ++ (Fi ++ F2) ∧ RS K Φ H A v x Fi ∧
      ∀ {Φ' H' : Hp} {A' : List Addr}, Same Φ Φ' → Pfx A A' → (∀ b ∈ F1 ++ F2, H' b = H b) → (∀ b ∈ F1 ++ F2, Φ' b = none) →
        ∀ {w : V} {y : SV} {G : List Addr}, RS K Φ' H' A' w y G → RSs K Φ' H' A' (vs.set k w) (xs.set k y) (F1 ++ (G ++ F2))
  | _, _, _, _, _, .nil, e => by simp at e
  | _, _, _, 0, x, .cons (v := v) (F := F) (G := G) q r, e => by
    simp at e; subst e
    refine ⟨v, [], F, G, rfl, rfl, q, fun le hA h1 h2 => fun y => ?_⟩
    rw [List.nil_append]; exact .cons y (r.frame le hA h1 h2)
  | _, _, _, k + 1, x, .cons (F := F0) q0 r, e => by
    obtain ⟨v, F1, Fi, F2, e1, e2, q, up⟩ := RSs.at (k := k) (x := x) r (by simpa using e)
    refine ⟨v, F0 ++ F1, Fi, F2, by simpa using e1, by rw [e2, List.append_assoc], q, fun le hA h1 h2 => ?_⟩
    have m1 : ∀ b ∈ F0, b ∈ (F0 ++ F1) ++ F2 := fun b hb => List.mem_append_left _ (List.mem_append_left _ hb)
    have m2 : ∀ b ∈ F1 ++ F2, b ∈ (F0 ++ F1) ++ F2 := fun b hb => by rw [List.append_assoc]; exact List.mem_append_right _ hb
    intro w y G z
    rw [List.append_assoc]
    exact .cons (q0.frame le hA (fun b hb => h1 b (m1 b hb)) fun b hb => h2 b (m1 b hb)) (up le hA (fun b hb => h1 b (m2 b hb)) (fun b hb => h2 b (m2 b hb)) z)
theorem RS.sub {K : PySem.W.Frag} {Φ H : Hp} {A : List Addr} : ∀ {p : List Nat} {v0 : V} {x0 x : SV} {F : List Addr}, RS K Φ H A v0 x0 F → x0.sub p = some x →
    ∃ v F1 Fx F2, At H v0 p v ∧ F = F1 ++ (Fx ++ F2) ∧ RS K Φ H A v x Fx ∧ (p ≠ [] → ∀ {H' : Hp}, (∀ b ∈ F, H' b = H b) → At H' v0 p v) ∧
      ∀ {Φ' H' : Hp} {A' : List Addr}, Same Φ Φ' → Pfx A A' → (∀ b ∈ F1 ++ F2, H' b = H b) → (∀ b ∈ F1 ++ F2, Φ' b = none) →
        ∀ {y : SV} {G : List Addr}, RS K Φ' H' A' v y G → RS K Φ' H' A' v0 (x0.putp p y) (F1 ++ (G ++ F2))
  | [], v0, x0, x, F, r, e => by
    have e : some x0 = some x := by rw [← e]; cases x0 <;> rfl
    cases e
    refine ⟨v0, [], F, [], .nil, by simp, r, fun h => absurd rfl h, fun le hA h1 h2 y G z => ?_⟩
    have e2 : x0.putp [] y = y := by cases x0 <;> rfl
    rw [e2]; simpa using z
  | k :: p, _, .dat _, x, F, r, e => by cases e
  | k :: p, _, .cell _, x, F, r, e => by cases e
  | k :: p, _, .node n xs, x, _, .node (a := a) (vs := vs) (F := F) ea f pa r, e => by
    cases ek : xs[k]? with
    | none => unfold SV.sub at e; rw [ek] at e; cases e
    | some y0 =>
      have e' : y0.sub p = some x := by rw [← e]; show _ = (match xs[k]? with | some y => y.sub p | none => none); rw [ek]
      obtain ⟨v1, E1, Ei, E2, g1, g2, g3, up1⟩ := RSs.at r ek
      obtain ⟨v, F1, Fx, F2, h1, h2, h3, h3', up2⟩ := RS.sub g3 e'
      subst g2 h2
      refine ⟨v, a :: (E1 ++ F1), Fx, F2 ++ E2, .cons ea f g1 h1, by simp [List.append_assoc], h3, fun _ H' hb => ?_, fun {Φ' H' A'} le hA i1 i2 y G z => ?_⟩
      · refine .cons ((hb a (List.mem_cons_self ..)).trans ea) f g1 ?_
        by_cases hp : p = []
        · subst hp
          cases h1
          exact .nil
        · exact h3' hp fun b hm => hb b (List.mem_cons_of_mem _ (List.mem_append_right _ (List.mem_append_left _ hm)))
      · have z2 := up2 le hA (fun b hb => i1 b (by simp only [List.mem_append, List.mem_cons] at hb ⊢; rcases hb with h | h <;> simp [h]))
          (fun b hb => i2 b (by simp only [List.mem_append, List.mem_cons] at hb ⊢; rcases hb with h | h <;> simp [h])) z
        have z3 := up1 le hA (fun b hb => i1 b (by simp only [List.mem_append, List.mem_cons] at hb ⊢; rcases hb with h | h <;> simp [h]))
          (fun b hb => i2 b (by simp only [List.mem_append, List.mem_cons] at hb ⊢; rcases hb with h | h <;> simp [h])) z2
        have e3 : vs.set k v1 = vs := by
          obtain ⟨hk, ev⟩ := List.getElem?_eq_some_iff.mp g1
          rw [← ev]; exact List.set_getElem_self hk
        rw [e3] at z3
        have e4 : (SV.node n xs).putp (k :: p) y = .node n (xs.set k (y0.putp p y)) := by
          show (match xs[k]? with | some z => SV.node n (xs.set k (z.putp p y)) | none => SV.node n xs) = _
          rw [ek]
        rw [e4]
        have ha : H' a = H a := i1 a (List.mem_append_left _ (List.mem_cons_self ..))
        have hp : Φ' a = none := i2 a (List.mem_append_left _ (List.mem_cons_self ..))
        have q := RS.node (n := n) (ha.trans ea) f hp z3
        have e5 : a :: (E1 ++ F1) ++ (G ++ (F2 ++ E2)) = a :: (E1 ++ (F1 ++ (G ++ F2) ++ E2)) := by simp [List.append_assoc]
        rw [e5]
        exact q
end L3
namespace L3
open PySem PySem.Spec PyProof.Rows L2
noncomputable def Sto.sub (S : Sto) (i : Nat) (p : List Nat) : Option SV := match S.ρ[i]? with
  | some (some x) => x.sub p
  | _ => none
theorem sub_some {S : Sto} {i : Nat} {p : List Nat} {x : SV} (h : S.sub i p = some x) : ∃ x0, S.ρ[i]? = some (some x0) ∧ x0.sub p = some x := by
  unfold Sto.sub at h
  cases e : S.ρ[i]? with
  | none => rw [e] at h; cases h
  | some o =>
    cases o with
    | none => rw [e] at h; cases h
    | some x0 => rw [e] at h; exact ⟨x0, rfl, h⟩
theorem sub_of {S : Sto} {i : Nat} {p : List Nat} {x0 : SV} (h : S.ρ[i]? = some (some x0)) : S.sub i p = x0.sub p := by
  unfold Sto.sub; rw [h]
noncomputable def Frz (S S' : Sto) : Prop := ∀ (i : Nat) (p : List Nat) (y : SV), p ≠ [] → S'.sub i p = some y → ∃ x, S.sub i p = some x
theorem Frz.refl {S : Sto} : Frz S S := fun _ _ y _ h => ⟨y, h⟩
theorem Frz.trans {S S1 S2 : Sto} (a : Frz S S1) (b : Frz S1 S2) : Frz S S2 := fun i p y hp h => (b i p y hp h).elim fun z q => a i p z hp q
theorem Frz.of {S S' : Sto} (h : S'.ρ = S.ρ) : Frz S S' := fun i p y _ q => ⟨y, by unfold Sto.sub at q ⊢; rw [h] at q; exact q⟩
theorem sub_putp {d : D} : ∀ {p q : List Nat} {x0 y : SV}, q ≠ [] → (x0.putp p (.dat d)).sub q = some y → ∃ z, x0.sub q = some z
  | [], q, x0, y, hq, h => by
    cases q with
    | nil => exact absurd rfl hq
    | cons k q =>
      have e : x0.putp [] (.dat d) = .dat d := by cases x0 <;> rfl
      rw [e] at h; cases h
  | k :: p, [], _, _, hq, _ => absurd rfl hq
  | k :: p, k' :: q, .dat _, y, _, h => by cases h
  | k :: p, k' :: q, .cell _, y, _, h => by cases h
  | k :: p, k' :: q, .node n xs, y, _, h => by
    cases ek : xs[k]? with
    | none =>
      have e4 : (SV.node n xs).putp (k :: p) (.dat d) = .node n xs := by
        show (match xs[k]? with | some z => SV.node n (xs.set k (z.putp p (.dat d))) | none => SV.node n xs) = _
        rw [ek]
      rw [e4] at h; exact ⟨y, h⟩
    | some z0 =>
      have e4 : (SV.node n xs).putp (k :: p) (.dat d) = .node n (xs.set k (z0.putp p (.dat d))) := by
        show (match xs[k]? with | some z => SV.node n (xs.set k (z.putp p (.dat d))) | none => SV.node n xs) = _
        rw [ek]
      rw [e4] at h
      have h : (match (xs.set k (z0.putp p (.dat d)))[k']? with | some y => y.sub q | none => none) = some y := h
      show ∃ z, (match xs[k']? with | some y => y.sub q | none => none) = some z
      by_cases hk : k = k'
      · subst hk
        have hlt : k < xs.length := (List.getElem?_eq_some_iff.mp ek).1
        rw [List.getElem?_set_self hlt] at h
        rw [ek]
        by_cases hq : q = []
        · subst hq; exact ⟨z0, by cases z0 <;> rfl⟩
        · exact sub_putp hq h
      · rw [List.getElem?_set_ne hk] at h
        exact ⟨y, h⟩
inductive R where
  | val (x : SV) | bor (i : Nat) (p : List Nat)
noncomputable abbrev R.d (d : D) : R := .val (.dat d)
noncomputable abbrev R.i (i : Int) : R := .val (.dat (.int i))
noncomputable abbrev R.b (b : Bool) : R := .val (.dat (.bl b))
noncomputable def RV (K : PySem.W.Frag) (Φ H : Hp) (A : List Addr) (S : Sto) (σ : Sl) (v : V) (r : R) (T : List Addr) : Prop := match r with
  | .val x => RS K Φ H A v x T
  | .bor i p => T = [] ∧ ∃ v0, σ[i]? = some (some v0) ∧ (p = [] → v = v0) ∧ ∀ x, S.sub i p = some x → At H v0 p v
structure Ex where
  cls : Value
  fs : List (Str × D)
inductive Out (α : Type) where
  | ok (a : α) (S : Sto) | exc (e : Ex) (S : Sto)
noncomputable def RX (K : PySem.W.Frag) (Φ H : Hp) (e : Ex) (c : Value) (d : Option Addr) : Prop :=
  c = e.cls ∧ ((e.fs = [] ∧ d = none) ∨ e.fs ≠ [] ∧ ∃ dx vs ds, d = some dx ∧ e.fs = ((e.fs.map (·.1)).zip ds) ∧ H dx = some (.xd ((e.fs.map (·.1)).zip vs)) ∧ vs.length = e.fs.length ∧ Rps K Φ vs ds)
section
variable (K : PySem.W.Frag) (W : WX)
noncomputable def PostE (S : Sto) (σ : Sl) (H Φ : Hp) (A F G : List Addr) (Q : VK) : Out R → Prop
  | .ok r S' => ∀ v H' Φ' A' T F' G', Step F G H Φ A (T ++ F') G' H' Φ' A' → Stands K S' σ H' Φ' A' F' G' → RV K Φ' H' A' S' σ v r T → (T ++ (F' ++ G')).Nodup → Frz S S' → Q v H'
  | .exc e S' => ∀ c d H' Φ' A' F' G', Step F G H Φ A F' G' H' Φ' A' → Stands K S' σ H' Φ' A' F' G' → RX K Φ' H' e c d → Frz S S' → W c d σ H'
noncomputable def PostT (S : Sto) (σ : Sl) (H Φ : Hp) (A F G : List Addr) (Q : Bool → Hp → Prop) : Out Bool → Prop
  | .ok b S' => ∀ H' Φ' A' F' G', Step F G H Φ A F' G' H' Φ' A' → Stands K S' σ H' Φ' A' F' G' → Frz S S' → Q b H'
  | .exc e S' => ∀ c d H' Φ' A' F' G', Step F G H Φ A F' G' H' Φ' A' → Stands K S' σ H' Φ' A' F' G' → RX K Φ' H' e c d → Frz S S' → W c d σ H'
inductive RVs (Φ H : Hp) (A : List Addr) (S : Sto) (σ : Sl) : List V → List R → List Addr → Prop
  | nil : RVs Φ H A S σ [] [] []
  | cons {v : V} {r : R} {vs : List V} {rs : List R} {T U : List Addr} : RV K Φ H A S σ v r T → RVs Φ H A S σ vs rs U → RVs Φ H A S σ (v :: vs) (r :: rs) (T ++ U)
noncomputable def PostA (S : Sto) (σ : Sl) (H Φ : Hp) (A F G : List Addr) (Q : List V → Hp → Prop) : Out (List R) → Prop
  | .ok rs S' => ∀ vs H' Φ' A' T F' G', Step F G H Φ A (T ++ F') G' H' Φ' A' → Stands K S' σ H' Φ' A' F' G' → RVs K Φ' H' A' S' σ vs rs T → (T ++ (F' ++ G')).Nodup → Frz S S' → Q vs H'
  | .exc e S' => ∀ c d H' Φ' A' F' G', Step F G H Φ A F' G' H' Φ' A' → Stands K S' σ H' Φ' A' F' G' → RX K Φ' H' e c d → Frz S S' → W c d σ H'
noncomputable abbrev FE := Sto → Option (Out R)
noncomputable abbrev FT := Sto → Option (Out Bool)
noncomputable abbrev FA := Sto → Option (Out (List R))
noncomputable def EV (t : TE) (f : FE) : Prop := ∀ S σ H Φ A F G, Stands K S σ H Φ A F G → ∀ out, f S = some out → ∀ Q, PostE K W S σ H Φ A F G Q out → t σ H Q
noncomputable def EVT (t : TT) (f : FT) : Prop := ∀ S σ H Φ A F G, Stands K S σ H Φ A F G → ∀ out, f S = some out → ∀ Q, PostT K W S σ H Φ A F G Q out → t σ H Q
noncomputable def EVA (t : TA) (f : FA) : Prop := ∀ S σ H Φ A F G, Stands K S σ H Φ A F G → ∀ out, f S = some out → ∀ Q, PostA K W S σ H Φ A F G Q out → t σ H Q
end
structure DE (X : Cx) (W : WX) (e : Expr) (t : TE) (f : FE) : Prop where
  pe : PE X e t
  ev : EV X.K W t f
structure DT (X : Cx) (W : WX) (e : Expr) (t : TT) (f : FT) : Prop where
  pe : PT X e t
  ev : EVT X.K W t f
structure DW (X : Cx) (W : WX) (e : Expr) (t : TT) (f : FT) : Prop where
  pe : PW X e t
  ev : EVT X.K W t f
structure DA (X : Cx) (W : WX) (es : List Expr) (t : TA) (f : FA) : Prop where
  pe : PA X es t
  ev : EVA X.K W t f
noncomputable def R.sv (S : Sto) : R → Option SV
  | .val x => some x
  | .bor i p => S.sub i p
noncomputable def R.peek (S : Sto) (r : R) : Option D := (r.sv S).bind SV.peek
section
variable {K : PySem.W.Frag} {S S' : Sto} {σ : Sl} {H Φ H' Φ' : Hp} {A A' F G F' G' T : List Addr} {v : V} {r : R}
theorem RV.rs (st : Stands K S σ H Φ A F G) (h : RV K Φ H A S σ v r T) {x : SV} (e : r.sv S = some x) : ∃ U, RS K Φ H A v x U ∧ (∀ b ∈ U, b ∈ T ∨ b ∈ F) := by
  cases r with
  | val y => cases e; exact ⟨T, h, fun b hb => .inl hb⟩
  | bor i p =>
    obtain ⟨rfl, v0, e0, hp, hat⟩ := h
    obtain ⟨x0, e1, e2⟩ := sub_some (show S.sub i p = some x from e)
    obtain ⟨v', F1, Fi, F2, e3, e4, q, _⟩ := st.ro.at e1
    rw [e0] at e3; cases e3
    obtain ⟨u, E1, Ex, E2, a1, a2, a3, _⟩ := RS.sub q e2
    have : u = v := a1.inj (hat x e)
    subst this
    exact ⟨Ex, a3, fun b hb => .inr (by rw [e4, a2]; simp [hb])⟩
theorem RV.rp (st : Stands K S σ H Φ A F G) (h : RV K Φ H A S σ v r T) {d : D} (e : r.peek S = some d) : Rp K H v d := by
  unfold R.peek at e
  cases e1 : r.sv S with
  | none => rw [e1] at e; cases e
  | some x =>
    rw [e1] at e
    obtain ⟨U, q, _⟩ := RV.rs st h e1
    exact q.rp st.le e
theorem RV.dat (st : Stands K S σ H Φ A F G) (h : RV K Φ H A S σ v r T) {d : D} (e : r.sv S = some (.dat d)) : Rp K Φ v d := by
  obtain ⟨U, q, _⟩ := RV.rs st h e
  cases q with
  | dat q => exact q
theorem RV.there (h : RV K Φ H A S σ v r T) : ∀ b ∈ T, On H b ∧ Φ b = none := by
  cases r with
  | val y => exact RS.there h
  | bor i p => obtain ⟨rfl, _⟩ := h; intro b hb; simp at hb
theorem RV.step {F1 G1 : List Addr} (st : Stands K S σ H Φ A F G) (h : RV K Φ H A S σ v r T) (nd : (T ++ (F ++ G)).Nodup) (sp : Step F G H Φ A F1 G1 H' Φ' A') (fz : Frz S S') : RV K Φ' H' A' S' σ v r T := by
  obtain ⟨k1, k2⟩ := sp.same h.there nd
  cases r with
  | val y => exact RS.frame sp.le sp.cells h k1 k2
  | bor i p =>
    obtain ⟨rfl, v0, e0, hp, hat⟩ := h
    refine ⟨rfl, v0, e0, hp, fun x1 e1 => ?_⟩
    by_cases hp' : p = []
    · subst hp'; rw [hp rfl]; exact .nil
    · obtain ⟨x, e⟩ := fz i p x1 hp' e1
      obtain ⟨x0, e1', e2⟩ := sub_some e
      obtain ⟨v', F1, Fi, F2, e3, e4, q, _⟩ := st.ro.at e1'
      rw [e0] at e3; cases e3
      obtain ⟨u, E1, Ex, E2, a1, a2, a3, a4, _⟩ := RS.sub q e2
      have : u = v := a1.inj (hat x e)
      subst this
      refine a4 hp' fun b hb => ?_
      have hF : b ∈ F := by rw [e4]; simp [hb]
      have hG : b ∉ G := fun z => (List.nodup_append.mp st.nd).2.2 b hF b z rfl
      obtain ⟨h1, _⟩ := st.ro.there b hF
      cases e5 : H b with
      | none => exact absurd e5 h1
      | some o => exact sp.keep b o e5 hG
theorem RVs.there : ∀ {vs : List V} {rs : List R} {T : List Addr}, RVs K Φ H A S σ vs rs T → ∀ b ∈ T, On H b ∧ Φ b = none
  | _, _, _, .nil, b, hb => by simp at hb
  | _, _, _, .cons q r, b, hb => by
    rcases List.mem_append.mp hb with hb | hb
    · exact RV.there q b hb
    · exact RVs.there r b hb
theorem nd_left {T U V : List Addr} (h : ((T ++ U) ++ V).Nodup) : (T ++ V).Nodup := by
  refine h.sublist ?_
  exact (List.sublist_append_left T U).append (List.Sublist.refl V)
theorem nd_right {T U V : List Addr} (h : ((T ++ U) ++ V).Nodup) : (U ++ V).Nodup := by
  refine h.sublist ?_
  exact (List.sublist_append_right T U).append (List.Sublist.refl V)
theorem RVs.step {F1 G1 : List Addr} (st : Stands K S σ H Φ A F G) (sp : Step F G H Φ A F1 G1 H' Φ' A') (fz : Frz S S') :
    ∀ {vs : List V} {rs : List R} {T : List Addr}, RVs K Φ H A S σ vs rs T → (T ++ (F ++ G)).Nodup → RVs K Φ' H' A' S' σ vs rs T
  | _, _, _, .nil, _ => .nil
  | _, _, _, .cons q r, nd => .cons (RV.step st q (nd_left nd) sp fz) (RVs.step st sp fz r (nd_right nd))
theorem RVs.length : ∀ {vs : List V} {rs : List R} {T : List Addr}, RVs K Φ H A S σ vs rs T → vs.length = rs.length
  | _, _, _, .nil => rfl
  | _, _, _, .cons _ r => congrArg (· + 1) r.length
theorem Stands.frz (st : Stands K S σ H Φ A F G) (hT : ∀ b ∈ T, On H b ∧ Φ b = none) (nd : (T ++ (F ++ G)).Nodup) : Stands K S σ H (frz Φ H T) A F G ∧ Step (T ++ F) G H Φ A F G H (L3.frz Φ H T) A := by
  have hn : ∀ b ∈ F ++ G, b ∉ T := fun b hb hT' => (List.nodup_append.mp nd).2.2 b hT' b hb rfl
  have l1 : Same Φ (L3.frz Φ H T) := frz_le fun b hb => (hT b hb).2
  refine ⟨⟨frz_sub st.le, st.ro.frame l1 Pfx.refl (fun _ _ => rfl) fun b hb => ?_, st.rc.frame l1 Pfx.refl (fun _ _ => rfl) fun b hb => ?_, st.nd⟩,
    fun _ _ e _ => e, l1, fun b o e => ?_, fun b hb => .inl (List.mem_append_right _ hb), fun b hb => .inl hb, fun _ h => h, Pfx.refl⟩
  · rw [frz_out (hn b (List.mem_append_left _ hb))]; exact (st.ro.there b hb).2
  · rw [frz_out (hn b (List.mem_append_right _ hb))]; exact (st.rc.there b hb).2
  · by_cases hb : b ∈ T
    · exact .inr (.inl (List.mem_append_left _ hb))
    · rw [frz_out hb] at e; exact .inl e
noncomputable def R.esc (S : Sto) : R → Option (D × Sto)
  | .val x => x.peek.map fun d => (d, S)
  | .bor i p => match S.ρ[i]? with
    | some (some x0) => match x0.sub p with
      | some (.dat d) => some (d, S)
      | some x => x.peek.map fun d => (d, { S with ρ := S.ρ.set i (some (x0.putp p (.dat d))) })
      | none => none
    | _ => none
theorem frz_slot {i : Nat} {x0 : SV} {p : List Nat} {d : D} (e : S.ρ[i]? = some (some x0)) : Frz S { S with ρ := S.ρ.set i (some (x0.putp p (.dat d))) } := fun j q y hq h => by
  by_cases hj : i = j
  · subst hj
    have hlt : i < S.ρ.length := (List.getElem?_eq_some_iff.mp e).1
    rw [sub_of (S := { S with ρ := S.ρ.set i (some (x0.putp p (.dat d))) }) (by show (S.ρ.set i _)[i]? = _; rw [List.getElem?_set_self hlt])] at h
    rw [sub_of e]
    exact sub_putp hq h
  · refine ⟨y, ?_⟩
    unfold Sto.sub at h ⊢
    have e2 : (S.ρ.set i (some (x0.putp p (.dat d))))[j]? = S.ρ[j]? := List.getElem?_set_ne hj
    rw [show ({ S with ρ := S.ρ.set i (some (x0.putp p (.dat d))) } : Sto).ρ[j]? = S.ρ[j]? from e2] at h
    exact h
theorem esc_ok (st : Stands K S σ H Φ A F G) (h : RV K Φ H A S σ v r T) (nd : (T ++ (F ++ G)).Nodup) {d : D} {S' : Sto} (e : r.esc S = some (d, S')) :
    ∃ Φ' F', Step (T ++ F) G H Φ A F' G H Φ' A ∧ Stands K S' σ H Φ' A F' G ∧ Rp K Φ' v d ∧ Frz S S' := by
  cases r with
  | val x =>
    have e : x.peek.map (fun d => (d, S)) = some (d, S') := e
    cases ex : x.peek with
    | none => rw [ex] at e; cases e
    | some d0 =>
      rw [ex] at e; cases e
      obtain ⟨s1, s2⟩ := st.frz (RS.there h) nd
      exact ⟨_, F, s2, s1, RS.freeze (fun b hb => (RS.there h b hb).2) h ex fun b hb => hb, .refl⟩
  | bor i p =>
    obtain ⟨rfl, v0, e0, hp, hat⟩ := h
    unfold R.esc at e
    dsimp only at e
    cases e1 : S.ρ[i]? with
    | none => rw [e1] at e; cases e
    | some o =>
      cases o with
      | none => rw [e1] at e; cases e
      | some x0 =>
        rw [e1] at e
        dsimp only at e
        cases e2 : x0.sub p with
        | none => rw [e2] at e; cases e
        | some x =>
          obtain ⟨v', F1, Fi, F2, e3, e4, q, up⟩ := st.ro.at e1
          rw [e0] at e3; cases e3
          obtain ⟨u, E1, Ex, E2, a1, a2, a3, _, a5⟩ := RS.sub q e2
          have hu : u = v := a1.inj (hat x (by rw [sub_of e1]; exact e2))
          subst hu
          rw [e2] at e
          have fin : ∀ d0, x.peek = some d0 → S' = { S with ρ := S.ρ.set i (some (x0.putp p (.dat d0))) } → d = d0 →
              ∃ Φ' F', Step ([] ++ F) G H Φ A F' G H Φ' A ∧ Stands K S' σ H Φ' A F' G ∧ Rp K Φ' u d ∧ Frz S S' := fun d0 ex eS ed => by
            subst eS ed
            subst e4 a2
            have hE : ∀ b ∈ Ex, On H b ∧ Φ b = none := RS.there a3
            have ndF : (F1 ++ ((E1 ++ (Ex ++ E2)) ++ F2) ++ G).Nodup := st.nd
            have no : ∀ b, b ∈ (F1 ++ (E1 ++ E2) ++ F2) ++ G → b ∉ Ex := fun b hb hx => by
              simp only [List.nodup_append, List.mem_append] at ndF
              simp only [List.mem_append] at hb
              grind
            have l1 : Same Φ (L3.frz Φ H Ex) := frz_le fun b hb => (hE b hb).2
            have hrp : Rp K (L3.frz Φ H Ex) u d := RS.freeze (fun b hb => (hE b hb).2) a3 ex fun b hb => hb
            have nf : ∀ b, b ∈ (F1 ++ (E1 ++ E2) ++ F2) ++ G → Φ b = none → L3.frz Φ H Ex b = none := fun b hb hz => by rw [frz_out (no b hb)]; exact hz
            have r0 := a5 (Φ' := L3.frz Φ H Ex) (H' := H) (A' := A) l1 Pfx.refl (fun _ _ => rfl) (fun b hb => nf b (by simp only [List.mem_append] at hb ⊢; grind) ((RS.there q b (by simp only [List.mem_append] at hb ⊢; grind)).2)) (y := .dat d) (G := []) (.dat hrp)
            have r1 := (up (Φ' := L3.frz Φ H Ex) (H' := H) (A' := A) l1 Pfx.refl (fun _ _ => rfl) (fun b hb => nf b (by simp only [List.mem_append] at hb ⊢; grind) ((st.ro.there b (by simp only [List.mem_append] at hb ⊢; grind)).2))).1 r0
            have es : σ.set i (some v0) = σ := by
              obtain ⟨hk, ev⟩ := List.getElem?_eq_some_iff.mp e0
              rw [← ev]; exact List.set_getElem_self hk
            rw [es] at r1
            refine ⟨L3.frz Φ H Ex, F1 ++ ((E1 ++ ([] ++ E2)) ++ F2), ⟨fun _ _ e _ => e, l1, fun b o e => ?_, fun b hb => ?_, fun b hb => .inl hb, fun _ h => h, Pfx.refl⟩, ⟨frz_sub st.le, r1, st.rc.frame l1 Pfx.refl (fun _ _ => rfl) fun b hb => ?_, ?_⟩, hrp, frz_slot e1⟩
            · by_cases hb : b ∈ Ex
              · exact .inr (.inl (by simp only [List.mem_append]; grind))
              · rw [frz_out hb] at e; exact .inl e
            · exact .inl (by simp only [List.mem_append] at hb ⊢; grind)
            · exact nf b (List.mem_append_right _ hb) (st.rc.there b hb).2
            · simp only [List.nodup_append, List.mem_append] at ndF ⊢
              grind
          cases x with
          | dat d0 =>
            cases e
            cases a3 with
            | dat a3 => exact ⟨Φ, F, by rw [List.nil_append]; exact .refl, st, a3, .refl⟩
          | node n xs =>
            have e : ((SV.node n xs).peek).map (fun d => (d, ({ S with ρ := S.ρ.set i (some (x0.putp p (.dat d))) } : Sto))) = some (d, S') := e
            cases ex : (SV.node n xs).peek with
            | none => rw [ex] at e; cases e
            | some d0 => rw [ex] at e; cases e; exact fin _ ex rfl rfl
          | cell k => cases e
end
end L3
namespace L3
open PySem PySem.Spec PyProof.Rows L2
section
variable {K : PySem.W.Frag} {W : WX} {S S' S1 S2 : Sto} {σ : Sl} {H Φ H' Φ' H1 Φ1 H2 Φ2 : Hp} {A A' A1 A2 F G F' G' F1 G1 F2 G2 T T1 T2 : List Addr} {v : V} {r : R}
theorem Step.drop (a : Step F G H Φ A (T ++ F') G' H' Φ' A') : Step F G H Φ A F' G' H' Φ' A' := ⟨a.keep, a.le, a.grow, fun b hb => a.ownF b (List.mem_append_right _ hb), a.ownG, a.live, a.cells⟩
noncomputable def XP (K : PySem.W.Frag) (W : WX) (S : Sto) (σ : Sl) (H Φ : Hp) (A F G : List Addr) (e : Ex) (S' : Sto) : Prop :=
  ∀ c d H' Φ' A' F' G', Step F G H Φ A F' G' H' Φ' A' → Stands K S' σ H' Φ' A' F' G' → RX K Φ' H' e c d → Frz S S' → W c d σ H'
theorem XP.at {e : Ex} (x : XP K W S σ H Φ A F G e S') (sp : Step F G H Φ A (T ++ F1) G1 H1 Φ1 A1) (fz : Frz S S1) : XP K W S1 σ H1 Φ1 A1 F1 G1 e S' :=
  fun c d H' Φ' A' F' G' s2 st rx f2 => x c d H' Φ' A' F' G' (Step.trans (T1 := []) sp s2).drop st rx (fz.trans f2)
noncomputable def bindE {α β : Type} (f : Sto → Option (Out α)) (g : α → Sto → Option (Out β)) : Sto → Option (Out β) := fun S => match f S with
  | some (.ok a S1) => g a S1
  | some (.exc e S1) => some (.exc e S1)
  | none => none
noncomputable def retE {α : Type} (a : α) : Sto → Option (Out α) := fun S => some (.ok a S)
theorem run1 {t : TE} {f : FE} {β : Type} {k : R → Sto → Option (Out β)} {out : Out β} {P : VK} (hf : EV K W t f) (st : Stands K S σ H Φ A F G) (h : bindE f k S = some out)
    (hx : ∀ e S', out = .exc e S' → XP K W S σ H Φ A F G e S')
    (hk : ∀ r S1 v H1 Φ1 A1 T F1 G1, Step F G H Φ A (T ++ F1) G1 H1 Φ1 A1 → Stands K S1 σ H1 Φ1 A1 F1 G1 → RV K Φ1 H1 A1 S1 σ v r T → (T ++ (F1 ++ G1)).Nodup → Frz S S1 → k r S1 = some out → P v H1) : t σ H P := by
  unfold bindE at h
  cases e : f S with
  | none => rw [e] at h; cases h
  | some o =>
    rw [e] at h
    cases o with
    | ok r S1 => exact hf S σ H Φ A F G st _ e P fun v H' Φ' A' T F' G' sp st' rv nd fz => hk r S1 v H' Φ' A' T F' G' sp st' rv nd fz h
    | exc x S1 =>
      cases h
      exact hf S σ H Φ A F G st _ e P (hx x S1 rfl)
theorem run2 {ta tb : TE} {fa fb : FE} {β : Type} {k : R → R → Sto → Option (Out β)} {out : Out β} {P : V → V → Hp → Prop} (ha : EV K W ta fa) (hb : EV K W tb fb) (st : Stands K S σ H Φ A F G)
    (h : bindE fa (fun x => bindE fb fun y => k x y) S = some out) (hx : ∀ e S', out = .exc e S' → XP K W S σ H Φ A F G e S')
    (hk : ∀ ra rb S1 x y H1 Φ1 A1 T U F1 G1, Step F G H Φ A (T ++ (U ++ F1)) G1 H1 Φ1 A1 → Stands K S1 σ H1 Φ1 A1 F1 G1 → RV K Φ1 H1 A1 S1 σ x ra T → RV K Φ1 H1 A1 S1 σ y rb U → (T ++ (U ++ (F1 ++ G1))).Nodup → Frz S S1 →
      k ra rb S1 = some out → P x y H1) : ta σ H fun x H1 => tb σ H1 fun y H2 => P x y H2 :=
  run1 ha st h hx fun ra S1 x H1 Φ1 A1 T F1 G1 sp1 st1 rv1 nd1 fz1 h1 => run1 hb st1 h1 (fun e S' eo => (hx e S' eo).at sp1 fz1) fun rb S2 y H2 Φ2 A2 U F2 G2 sp2 st2 rv2 nd2 fz2 h2 => by
    have rv1' := RV.step st1 rv1 nd1 sp2.drop fz2
    have nd : (T ++ (U ++ (F2 ++ G2))).Nodup := by
      have := sp2.apart (fun b hb => (rv1.there b hb).1.ne) nd1 (by rw [List.append_assoc]; exact nd2)
      simpa [List.append_assoc] using this
    exact hk ra rb S2 x y H2 Φ2 A2 T U F2 G2 (sp1.trans sp2) st2 rv1' rv2 nd (fz1.trans fz2) h2
theorem runA {t : TA} {f : FA} {β : Type} {k : List R → Sto → Option (Out β)} {out : Out β} {P : List V → Hp → Prop} (hf : EVA K W t f) (st : Stands K S σ H Φ A F G) (h : bindE f k S = some out)
    (hx : ∀ e S', out = .exc e S' → XP K W S σ H Φ A F G e S')
    (hk : ∀ rs S1 vs H1 Φ1 A1 T F1 G1, Step F G H Φ A (T ++ F1) G1 H1 Φ1 A1 → Stands K S1 σ H1 Φ1 A1 F1 G1 → RVs K Φ1 H1 A1 S1 σ vs rs T → (T ++ (F1 ++ G1)).Nodup → Frz S S1 → k rs S1 = some out → P vs H1) : t σ H P := by
  unfold bindE at h
  cases e : f S with
  | none => rw [e] at h; cases h
  | some o =>
    rw [e] at h
    cases o with
    | ok r S1 => exact hf S σ H Φ A F G st _ e P fun v H' Φ' A' T F' G' sp st' rv nd fz => hk r S1 v H' Φ' A' T F' G' sp st' rv nd fz h
    | exc x S1 =>
      cases h
      exact hf S σ H Φ A F G st _ e P (hx x S1 rfl)
theorem runT {t : TT} {f : FT} {β : Type} {k : Bool → Sto → Option (Out β)} {out : Out β} {P : Bool → Hp → Prop} (hf : EVT K W t f) (st : Stands K S σ H Φ A F G) (h : bindE f k S = some out)
    (hx : ∀ e S', out = .exc e S' → XP K W S σ H Φ A F G e S')
    (hk : ∀ b S1 H1 Φ1 A1 F1 G1, Step F G H Φ A F1 G1 H1 Φ1 A1 → Stands K S1 σ H1 Φ1 A1 F1 G1 → Frz S S1 → k b S1 = some out → P b H1) : t σ H P := by
  unfold bindE at h
  cases e : f S with
  | none => rw [e] at h; cases h
  | some o =>
    rw [e] at h
    cases o with
    | ok r S1 => exact hf S σ H Φ A F G st _ e P fun H' Φ' A' F' G' sp st' fz => hk r S1 H' Φ' A' F' G' sp st' fz h
    | exc x S1 =>
      cases h
      exact hf S σ H Φ A F G st _ e P (hx x S1 rfl)
theorem PostE.x {out : Out R} {Q : VK} (h : PostE K W S σ H Φ A F G Q out) : ∀ e S', out = .exc e S' → XP K W S σ H Φ A F G e S' := fun e S' eo => by subst eo; exact h
theorem PostT.x {out : Out Bool} {Q : Bool → Hp → Prop} (h : PostT K W S σ H Φ A F G Q out) : ∀ e S', out = .exc e S' → XP K W S σ H Φ A F G e S' := fun e S' eo => by subst eo; exact h
theorem PostA.x {out : Out (List R)} {Q : List V → Hp → Prop} (h : PostA K W S σ H Φ A F G Q out) : ∀ e S', out = .exc e S' → XP K W S σ H Φ A F G e S' := fun e S' eo => by subst eo; exact h
theorem PostE.at {out : Out R} {Q : VK} (h : PostE K W S σ H Φ A F G Q out) (sp : Step F G H Φ A (T ++ F1) G1 H1 Φ1 A1) (fz : Frz S S1) : PostE K W S1 σ H1 Φ1 A1 (T ++ F1) G1 Q out := by
  cases out with
  | ok r S' =>
    intro v H' Φ' A' U F' G' s2 st rv nd f2
    have s3 : Step F G H Φ A (U ++ F') G' H' Φ' A' := Step.trans (T := []) (T1 := U) (F1 := T ++ F1) sp s2
    exact h v H' Φ' A' U F' G' s3 st rv nd (fz.trans f2)
  | exc e S' =>
    intro c d H' Φ' A' F' G' s2 st rx f2
    have s3 : Step F G H Φ A F' G' H' Φ' A' := Step.trans (T := []) (T1 := []) (F1 := T ++ F1) sp s2
    exact h c d H' Φ' A' F' G' s3 st rx (fz.trans f2)
theorem PostE.dat {Q : VK} {d : D} (h : PostE K W S σ H Φ A F G Q (.ok (.d d) S)) (st : Stands K S σ H Φ A F1 G) (hF : ∀ b ∈ F1, b ∈ F) (rp : Rp K Φ v d) : Q v H :=
  h v H Φ A [] F1 G ⟨fun _ _ e _ => e, fun _ _ e => e, fun _ _ e => .inl e, fun b hb => .inl (hF b hb), fun _ h => .inl h, fun _ h => h, Pfx.refl⟩ st (RS.dat rp) (by simpa using st.nd) .refl
theorem upd_same' {H : Hp} {p : Addr} {o : HO} (h : H p = none) : Same H (upd H p o) := fun b x e => by
  rw [upd_ne (ne_of_none e h)]; exact e
theorem new_list {p : Addr} {vs : List V} {xs : List SV} {U : List Addr} (st : Stands K S σ H Φ A F G) (q : RSs K Φ H A vs xs U) (nd : (U ++ (F ++ G)).Nodup) (hp : H p = none) :
    Step (U ++ F) G H Φ A ((p :: U) ++ F) G (upd H p (.lst vs)) Φ A ∧ Stands K S σ (upd H p (.lst vs)) Φ A F G ∧ RS K Φ (upd H p (.lst vs)) A (.ref p) (.own xs) (p :: U) ∧ ((p :: U) ++ (F ++ G)).Nodup := by
  have no : ∀ b ∈ U ++ (F ++ G), H b ≠ none := fun b hb => by
    rcases List.mem_append.mp hb with hb | hb
    · exact (q.there b hb).1.ne
    · rcases List.mem_append.mp hb with hb | hb
      · exact (st.ro.there b hb).1.ne
      · exact (st.rc.there b hb).1.ne
  have nep : ∀ b ∈ U ++ (F ++ G), b ≠ p := fun b hb e => no b hb (by rw [e]; exact hp)
  have hΦ : Φ p = none := by
    cases e : Φ p with
    | none => rfl
    | some o => have := st.le _ _ e; rw [hp] at this; cases this
  have same : ∀ b ∈ U ++ (F ++ G), upd H p (.lst vs) b = H b := fun b hb => upd_ne (nep b hb)
  refine ⟨⟨fun b o e _ => upd_same' hp _ _ e, fun _ _ e => e, fun _ _ e => .inl e, fun b hb => ?_, fun _ h => .inl h, fun b hb => ?_, Pfx.refl⟩,
    ⟨st.le.trans (upd_same' hp), st.ro.frame (Same.refl _) Pfx.refl (fun b hb => same b (by simp [hb])) (fun b hb => (st.ro.there b hb).2), st.rc.frame (Same.refl _) Pfx.refl (fun b hb => same b (by simp [hb])) (fun b hb => (st.rc.there b hb).2), st.nd⟩,
    .node (n := .lst) upd_same ⟨trivial, trivial⟩ hΦ (q.frame (Same.refl _) Pfx.refl (fun b hb => same b (by simp [hb])) fun b hb => (q.there b hb).2), ?_⟩
  · rcases List.mem_append.mp hb with hb | hb
    · rcases List.mem_cons.mp hb with rfl | hb
      · exact .inr (.inr hp)
      · exact .inl (List.mem_append_left _ hb)
    · exact .inl (List.mem_append_right _ hb)
  · by_cases e : b = p
    · subst e; rw [upd_same]; simp
    · rw [upd_ne e]; exact hb
  · rw [List.cons_append]
    exact List.nodup_cons.mpr ⟨fun hb => nep p hb rfl, nd⟩
theorem new_frz {p : Addr} {o : HO} (st : Stands K S σ H Φ A F G) (hp : H p = none) : Step F G H Φ A F G (upd H p o) (upd Φ p o) A ∧ Stands K S σ (upd H p o) (upd Φ p o) A F G ∧ Same Φ (upd Φ p o) := by
  have hΦ : Φ p = none := by
    cases e : Φ p with
    | none => rfl
    | some o => have := st.le _ _ e; rw [hp] at this; cases this
  have nep : ∀ b ∈ F ++ G, b ≠ p := fun b hb e => by
    subst e
    rcases List.mem_append.mp hb with hb | hb
    · exact (st.ro.there b hb).1.ne hp
    · exact (st.rc.there b hb).1.ne hp
  refine ⟨⟨fun b x e _ => upd_same' hp _ _ e, upd_same' hΦ, fun b x e => ?_, fun _ h => .inl h, fun _ h => .inl h, fun b hb => ?_, Pfx.refl⟩,
    ⟨fun b x e => ?_, st.ro.frame (upd_same' hΦ) Pfx.refl (fun b hb => upd_ne (nep b (by simp [hb]))) (fun b hb => by rw [upd_ne (nep b (by simp [hb]))]; exact (st.ro.there b hb).2),
      st.rc.frame (upd_same' hΦ) Pfx.refl (fun b hb => upd_ne (nep b (by simp [hb]))) (fun b hb => by rw [upd_ne (nep b (by simp [hb]))]; exact (st.rc.there b hb).2), st.nd⟩, upd_same' hΦ⟩
  · by_cases h : b = p
    · subst h; exact .inr (.inr (.inr hp))
    · rw [upd_ne h] at e; exact .inl e
  · by_cases e : b = p
    · subst e; rw [upd_same]; simp
    · rw [upd_ne e]; exact hb
  · by_cases h : b = p
    · subst h; rw [upd_same] at e ⊢; exact e
    · rw [upd_ne h] at e ⊢; exact st.le _ _ e
theorem RV.step' {F0 G1 F1 : List Addr} (st : Stands K S σ H Φ A F G) (h : RV K Φ H A S σ v r T) (nd : (T ++ (F0 ++ G)).Nodup) (sp : Step F0 G H Φ A F1 G1 H' Φ' A') (fz : Frz S S') : RV K Φ' H' A' S' σ v r T := by
  obtain ⟨k1, k2⟩ := sp.same h.there nd
  cases r with
  | val y => exact RS.frame sp.le sp.cells h k1 k2
  | bor i p =>
    obtain ⟨rfl, v0, e0, hp, hat⟩ := h
    refine ⟨rfl, v0, e0, hp, fun x1 e1 => ?_⟩
    by_cases hp' : p = []
    · subst hp'; rw [hp rfl]; exact .nil
    · obtain ⟨x, e⟩ := fz i p x1 hp' e1
      obtain ⟨x0, e1', e2⟩ := sub_some e
      obtain ⟨v', E1, Ei, E2, e3, e4, q, _⟩ := st.ro.at e1'
      rw [e0] at e3; cases e3
      obtain ⟨u, D1, Dx, D2, a1, a2, a3, a4, _⟩ := RS.sub q e2
      have : u = v := a1.inj (hat x e)
      subst this
      refine a4 hp' fun b hb => ?_
      have hF : b ∈ F := by rw [e4]; simp [hb]
      have hG : b ∉ G := fun z => (List.nodup_append.mp st.nd).2.2 b hF b z rfl
      obtain ⟨h1, _⟩ := st.ro.there b hF
      cases e5 : H b with
      | none => exact absurd e5 h1
      | some o => exact sp.keep b o e5 hG
theorem RVs.step' {F0 F1 G1 : List Addr} (st : Stands K S σ H Φ A F G) (sp : Step F0 G H Φ A F1 G1 H' Φ' A') (fz : Frz S S') :
    ∀ {vs : List V} {rs : List R} {T : List Addr}, RVs K Φ H A S σ vs rs T → (T ++ (F0 ++ G)).Nodup → RVs K Φ' H' A' S' σ vs rs T
  | _, _, _, .nil, _ => .nil
  | _, _, _, .cons q r, nd => .cons (RV.step' st q (nd_left nd) sp fz) (RVs.step' st sp fz r (nd_right nd))
noncomputable def escs : List R → Sto → Option (List D × Sto)
  | [], S => some ([], S)
  | r :: rs, S => match r.esc S with
    | some (d, S1) => match escs rs S1 with
      | some (ds, S2) => some (d :: ds, S2)
      | none => none
    | none => none
theorem escs_ok : ∀ {vs : List V} {rs : List R} {T : List Addr} {S : Sto} {Φ : Hp} {F : List Addr} {ds : List D}, Stands K S σ H Φ A F G → RVs K Φ H A S σ vs rs T → (T ++ (F ++ G)).Nodup → escs rs S = some (ds, S') →
    ∃ Φ' F', Step (T ++ F) G H Φ A F' G H Φ' A ∧ Stands K S' σ H Φ' A F' G ∧ Rps K Φ' vs ds ∧ Frz S S'
  | _, _, _, S, Φ, F, _, st, .nil, nd, e => by
    cases e
    exact ⟨Φ, F, by rw [List.nil_append]; exact .refl, st, .nil, .refl⟩
  | _, _, _, S, Φ, F, ds, st, .cons (r := r) (rs := rs) (T := T) (U := U) q qs, nd, e => by
    unfold escs at e
    cases e1 : r.esc S with
    | none => rw [e1] at e; cases e
    | some dS =>
      obtain ⟨d, S1⟩ := dS
      rw [e1] at e
      dsimp only at e
      cases e2 : escs rs S1 with
      | none => rw [e2] at e; cases e
      | some dS2 =>
        obtain ⟨ds2, S2⟩ := dS2
        rw [e2] at e; cases e
        obtain ⟨Φ1, F1, sp1, st1, rp1, fz1⟩ := esc_ok st q (nd_left nd) e1
        have nd' : (U ++ ((T ++ F) ++ G)).Nodup := by
          simp only [List.nodup_append, List.mem_append] at nd ⊢; grind
        have qs1 := RVs.step' st sp1 fz1 qs nd'
        have nd1 : (U ++ (F1 ++ G)).Nodup := sp1.apart (fun b hb => (qs.there b hb).1.ne) nd' st1.nd
        obtain ⟨Φ2, F2, sp2, st2, rp2, fz2⟩ := escs_ok st1 qs1 nd1 e2
        refine ⟨Φ2, F2, ⟨fun b o e _ => e, sp1.le.trans sp2.le, fun b o e => ?_, fun b hb => ?_, fun _ h => .inl h, fun _ h => h, Pfx.refl⟩, st2, .cons (rp1.mono sp2.le) rp2, fz1.trans fz2⟩
        · rcases sp2.grow b o e with h | h | h | h
          · rcases sp1.grow b o h with h | h | h | h
            · exact .inl h
            · exact .inr (.inl (by simp only [List.mem_append] at h ⊢; grind))
            · exact .inr (.inr (.inl h))
            · exact .inr (.inr (.inr h))
          · rcases List.mem_append.mp h with h | h
            · exact .inr (.inl (by simp [h]))
            · rcases sp1.ownF b h with h | h | h
              · exact .inr (.inl (by simp only [List.mem_append] at h ⊢; grind))
              · exact .inr (.inr (.inl h))
              · exact .inr (.inr (.inr h))
          · exact .inr (.inr (.inl h))
          · exact .inr (.inr (.inr h))
        · rcases sp2.ownF b hb with h | h | h
          · rcases List.mem_append.mp h with h | h
            · exact .inl (by simp [h])
            · rcases sp1.ownF b h with h | h | h
              · exact .inl (by simp only [List.mem_append] at h ⊢; grind)
              · exact .inr (.inl h)
              · exact .inr (.inr h)
          · exact .inr (.inl h)
          · exact .inr (.inr h)
noncomputable def R.kid (S : Sto) : R → Option (SV × Sto)
  | .val x => some (x, S)
  | .bor i p => match S.sub i p with
    | some (.cell k) => some (.cell k, S)
    | _ => match (R.bor i p).esc S with
      | some (d, S1) => some (.dat d, S1)
      | none => none
noncomputable def kids : List R → Sto → Option (List SV × Sto)
  | [], S => some ([], S)
  | r :: rs, S => match r.kid S with
    | some (x, S1) => match kids rs S1 with
      | some (xs, S2) => some (x :: xs, S2)
      | none => none
    | none => none
theorem kid_ok {x : SV} (st : Stands K S σ H Φ A F G) (h : RV K Φ H A S σ v r T) (nd : (T ++ (F ++ G)).Nodup) (e : r.kid S = some (x, S')) :
    ∃ Φ' F', Step F G H Φ A F' G H Φ' A ∧ Stands K S' σ H Φ' A F' G ∧ RS K Φ' H A v x T ∧ Frz S S' := by
  cases r with
  | val y => cases e; exact ⟨Φ, F, .refl, st, h, .refl⟩
  | bor i p =>
    unfold R.kid at e
    dsimp only at e
    have other : ∀ d S1, (R.bor i p).esc S = some (d, S1) → x = .dat d → S' = S1 → ∃ Φ' F', Step F G H Φ A F' G H Φ' A ∧ Stands K S' σ H Φ' A F' G ∧ RS K Φ' H A v x T ∧ Frz S S' := fun d S1 e1 ex eS => by
      subst ex eS
      obtain ⟨Φ1, F1, sp1, st1, rp1, fz1⟩ := esc_ok st h nd e1
      obtain ⟨rfl, _⟩ := h
      exact ⟨Φ1, F1, sp1, st1, .dat rp1, fz1⟩
    cases e0 : S.sub i p with
    | none =>
      rw [e0] at e
      cases e1 : (R.bor i p).esc S with
      | none => rw [e1] at e; cases e
      | some dS => obtain ⟨d, S1⟩ := dS; rw [e1] at e; cases e; exact other _ _ e1 rfl rfl
    | some y =>
      rw [e0] at e
      cases y with
      | cell k =>
        cases e
        obtain ⟨U, q, _⟩ := RV.rs st h (show (R.bor i p).sv S = some (.cell k) from e0)
        obtain ⟨rfl, _⟩ := h
        cases q with
        | cell q => exact ⟨Φ, F, .refl, st, .cell q, .refl⟩
      | dat d0 =>
        cases e1 : (R.bor i p).esc S with
        | none => rw [e1] at e; cases e
        | some dS => obtain ⟨d, S1⟩ := dS; rw [e1] at e; cases e; exact other _ _ e1 rfl rfl
      | node n xs =>
        cases e1 : (R.bor i p).esc S with
        | none => rw [e1] at e; cases e
        | some dS => obtain ⟨d, S1⟩ := dS; rw [e1] at e; cases e; exact other _ _ e1 rfl rfl
theorem kids_ok : ∀ {vs : List V} {rs : List R} {T : List Addr} {S : Sto} {Φ : Hp} {F : List Addr} {xs : List SV}, Stands K S σ H Φ A F G → RVs K Φ H A S σ vs rs T → (T ++ (F ++ G)).Nodup → kids rs S = some (xs, S') →
    ∃ Φ' F', Step F G H Φ A F' G H Φ' A ∧ Stands K S' σ H Φ' A F' G ∧ RSs K Φ' H A vs xs T ∧ Frz S S'
  | _, _, _, S, Φ, F, _, st, .nil, nd, e => by
    cases e
    exact ⟨Φ, F, .refl, st, .nil, .refl⟩
  | _, _, _, S, Φ, F, xs, st, .cons (r := r) (rs := rs) (T := T) (U := U) q qs, nd, e => by
    unfold kids at e
    cases e1 : r.kid S with
    | none => rw [e1] at e; cases e
    | some dS =>
      obtain ⟨x, S1⟩ := dS
      rw [e1] at e
      dsimp only at e
      cases e2 : kids rs S1 with
      | none => rw [e2] at e; cases e
      | some dS2 =>
        obtain ⟨xs2, S2⟩ := dS2
        rw [e2] at e; cases e
        obtain ⟨Φ1, F1, sp1, st1, rs1, fz1⟩ := kid_ok st q (nd_left nd) e1
        have qs1 := RVs.step st sp1 fz1 qs (nd_right nd)
        have nd1 : (U ++ (F1 ++ G)).Nodup := sp1.apart (fun b hb => (qs.there b hb).1.ne) (nd_right nd) st1.nd
        obtain ⟨Φ2, F2, sp2, st2, rs2, fz2⟩ := kids_ok st1 qs1 nd1 e2
        have nd2 : (T ++ (F1 ++ G)).Nodup := sp1.apart (fun b hb => (q.there b hb).1.ne) (nd_left nd) st1.nd
        obtain ⟨k1, k2⟩ := sp2.same (T := T) (fun b hb => RS.there rs1 b hb) nd2
        exact ⟨Φ2, F2, sp1.trans0 sp2, st2, .cons (rs1.frame sp2.le sp2.cells k1 k2) rs2, fz1.trans fz2⟩
end
end L3
namespace L3
open PySem PySem.Spec PyProof.Rows L2
noncomputable def dats : List SV → Option (List D)
  | [] => some []
  | .dat d :: r => (dats r).map fun ds => d :: ds
  | _ :: _ => none
noncomputable def R.its (S : Sto) (r : R) : Option (Bool × List D) := match r.sv S with
  | some (.dat (.lst ds)) => some (false, ds)
  | some (.dat (.tup ds)) => some (true, ds)
  | some (.dat (.kl ds)) => some (false, ds)
  | some (.node .lst xs) => match r with
    | .val _ => (peeks xs).map fun ds => (false, ds)
    | .bor _ _ => (dats xs).map fun ds => (false, ds)
  | _ => none
section
variable {K : PySem.W.Frag} {W : WX} {S S' : Sto} {σ : Sl} {H Φ : Hp} {A F G T : List Addr} {v : V} {r : R}
theorem dats_rps {A : List Addr} : ∀ {vs : List V} {xs : List SV} {U : List Addr} {ds : List D}, RSs K Φ H A vs xs U → dats xs = some ds → Rps K Φ vs ds
  | _, _, _, ds, .nil, h => by
    have h : (some [] : Option (List D)) = some ds := by rw [← h]; rfl
    cases h; exact .nil
  | _, _, _, ds, .cons (x := x) (xs := xs) q r, h => by
    cases q with
    | dat q =>
      rename_i d0
      have h : (dats xs).map (fun ds => d0 :: ds) = some ds := by rw [← h]; rfl
      cases e2 : dats xs with
      | none => rw [e2] at h; cases h
      | some es => rw [e2] at h; cases h; exact .cons q (dats_rps r e2)
    | node => cases h
    | cell => cases h
noncomputable def SeqV (K : PySem.W.Frag) (H : Hp) (a : Addr) (t : Bool) (vs : List V) : Prop := if t = true then SqT K H a vs else SqL K H a vs
theorem its_ok (st : Stands K S σ H Φ A F G) (h : RV K Φ H A S σ v r T) (nd : (T ++ (F ++ G)).Nodup) {t : Bool} {ds : List D} (e : r.its S = some (t, ds)) :
    ∃ Φ' a vs, v = .ref a ∧ SeqV K H a t vs ∧ Rps K Φ' vs ds ∧ Step (T ++ F) G H Φ A F G H Φ' A ∧ Stands K S σ H Φ' A F G := by
  have stay : Step (T ++ F) G H Φ A F G H Φ A := ⟨fun _ _ e _ => e, fun _ _ e => e, fun _ _ e => .inl e, fun b hb => .inl (List.mem_append_right _ hb), fun _ h => .inl h, fun _ h => h, Pfx.refl⟩
  unfold R.its at e
  cases ex : r.sv S with
  | none => rw [ex] at e; cases e
  | some x =>
    rw [ex] at e
    cases x with
    | cell k => cases e
    | dat d =>
      have rp := RV.dat st h ex
      cases d with
      | lst es =>
        cases e
        cases rp with
        | lst q q2 => exact ⟨Φ, _, _, rfl, .inl (.inl (st.le _ _ q)), q2, stay, st⟩
      | kl es =>
        cases e
        cases rp with
        | kl q q2 => exact ⟨Φ, _, _, rfl, sqL_mono st.le q, q2, stay, st⟩
      | tup es =>
        cases e
        cases rp with
        | tup q q2 => exact ⟨Φ, _, _, rfl, .inl (.inl (st.le _ _ q)), q2, stay, st⟩
      | _ => cases e
    | node n xs =>
      cases n with
      | lst =>
        cases r with
        | val y =>
          cases ex
          have e : (peeks xs).map (fun ds => (false, ds)) = some (t, ds) := e
          cases e2 : peeks xs with
          | none => rw [e2] at e; cases e
          | some es =>
            rw [e2] at e; cases e
            have hR : RS K Φ H A v (.node .lst xs) T := h
            obtain ⟨s1, s2⟩ := st.frz (RV.there h) nd
            cases hR with
            | node ea f pa q =>
              refine ⟨_, _, _, rfl, .inl (.inl ea), RSs.freeze (fun b hb => (RV.there h b hb).2) q e2 (fun b hb => List.mem_cons_of_mem _ hb), s2, s1⟩
        | bor i p =>
          have e : (dats xs).map (fun ds => (false, ds)) = some (t, ds) := e
          cases e2 : dats xs with
          | none => rw [e2] at e; cases e
          | some es =>
            rw [e2] at e; cases e
            obtain ⟨U, q, _⟩ := RV.rs st h ex
            cases q with
            | node ea f pa q => exact ⟨Φ, _, _, rfl, .inl (.inl ea), dats_rps q e2, stay, st⟩
      | dK ks => cases e
      | dT ks => cases e
      | ins C dx ks => cases e
end
section
variable {X : Cx} {W : WX} {e a b c : Expr} {pos : Pos} {ta tb tc : TE} {fa fb fc : FE}
noncomputable def fVar (i : Nat) : FE := fun S => match S.ρ[i]? with
  | some (some _) => some (.ok (.bor i []) S)
  | _ => none
theorem de_var (i : Nat) {x : Str} (hN : X.N[i]? = some x := by rfl) (hv : Vis X.env.scope x := by first | exact Or.inl rfl | exact Or.inr (Or.inl rfl) | exact Or.inr (Or.inr rfl)) (hd : (x == ("__debug__" : Str)) = false := by decide)
    (hcd : (x == ("__classdict__" : Str)) = false := by decide) : DE X W (.Name x pos) (tVar i) (fVar i) := by
  refine ⟨pe_var hN hv hd hcd, fun S σ H Φ A F G st out h Q q => ?_⟩
  unfold fVar at h
  cases e : S.ρ[i]? with
  | none => rw [e] at h; cases h
  | some o =>
    cases o with
    | none => rw [e] at h; cases h
    | some x0 =>
      rw [e] at h; cases h
      obtain ⟨v, F1, Fi, F2, e1, e2, r, _⟩ := st.ro.at e
      refine ⟨v, e1, q v H Φ A [] F G .refl st ⟨rfl, v, e1, fun _ => rfl, fun x hx => ?_⟩ (by simpa using st.nd) .refl⟩
      exact .nil
noncomputable def fC (d : D) : FE := fun S => some (.ok (.d d) S)
theorem ev_c {K : PySem.W.Frag} {v : V} {d : D} (h : ∀ H, Rp K H v d) : EV K W (tC v) (fC d) := fun S σ H Φ A F G st out ho Q q => by
  cases ho
  exact PostE.dat q st (fun _ hb => hb) (h _)
theorem de_int {i : Int} {j} : DE X W (.Constant (.int i) j pos) (tC (.int i)) (fC (.int i)) := ⟨pe_int, ev_c fun _ => .int i⟩
theorem de_bl {i : Bool} {j} : DE X W (.Constant (.bool i) j pos) (tC (.bl i)) (fC (.bl i)) := ⟨pe_bl, ev_c fun _ => .bl i⟩
theorem de_non {j} : DE X W (.Constant .none j pos) (tC .non) (fC .non) := ⟨pe_non, ev_c fun _ => .non⟩
theorem de_str {x : Str} {j} : DE X W (.Constant (.str x) j pos) (tC (.str x)) (fC (.str x)) := ⟨pe_str, ev_c fun _ => .str x⟩
theorem de_glob {x : Str} {v : V} {u : Value} {d : D} (hm : X.mg x = some u) (r : RelV v u) (hr : ∀ H, Rp X.K H v d) (hg : Gl X x := by rfl) (hd : (x == ("__debug__" : Str)) = false := by decide) : DE X W (.Name x pos) (tC v) (fC d) := ⟨pe_glob hg hm r hd, ev_c hr⟩
noncomputable abbrev G2 := R → R → Sto → Option (R × Sto)
noncomputable def OpG (K : PySem.W.Frag) (r : R2) (g : G2) : Prop :=
  ∀ S σ H Φ A F G x y ra rb T U, Stands K S σ H Φ A F G → RV K Φ H A S σ x ra T → RV K Φ H A S σ y rb U → (T ++ (U ++ (F ++ G))).Nodup → ∀ rz S', g ra rb S = some (rz, S') →
    ∀ Q, (∀ v H' Φ' A' V F' G', Step (T ++ (U ++ F)) G H Φ A (V ++ F') G' H' Φ' A' → Stands K S' σ H' Φ' A' F' G' → RV K Φ' H' A' S' σ v rz V → (V ++ (F' ++ G')).Nodup → Frz S S' → Q v H') → r x y H Q
theorem OpG.or {K : PySem.W.Frag} {r r' : R2} {g g' : G2} (h : OpG K r g) (h' : OpG K r' g') : OpG K (fun x y H Q => r x y H Q ∨ r' x y H Q) (fun ra rb S => (g ra rb S).orElse fun _ => g' ra rb S) := by
  intro S σ H Φ A F G x y ra rb T U st rx ry nd rz S' e Q q
  have e : (g ra rb S).orElse (fun _ => g' ra rb S) = some (rz, S') := e
  cases e1 : g ra rb S with
  | some z =>
    rw [e1] at e
    have e : some z = some (rz, S') := e
    cases e
    exact .inl (h S σ H Φ A F G x y ra rb T U st rx ry nd rz S' e1 Q q)
  | none =>
    rw [e1] at e
    exact .inr (h' S σ H Φ A F G x y ra rb T U st rx ry nd rz S' e Q q)
noncomputable def fBin (g : G2) (fa fb : FE) : FE := bindE fa fun ra => bindE fb fun rb S => (g ra rb S).map fun z => .ok z.1 z.2
theorem ev_bin {K : PySem.W.Frag} {r : R2} {g : G2} (hg : OpG K r g) (ha : EV K W ta fa) (hb : EV K W tb fb) : EV K W (tOp r ta tb) (fBin g fa fb) := fun S σ H Φ A F G st out h Q q => by
  refine run2 ha hb st h q.x fun ra rb S1 x y H1 Φ1 A1 T U F1 G1 sp st1 rx ry nd fz h1 => ?_
  cases e : g ra rb S1 with
  | none => rw [e] at h1; cases h1
  | some z =>
    obtain ⟨rz, S'⟩ := z
    rw [e] at h1; cases h1
    refine hg S1 σ H1 Φ1 A1 F1 G1 x y ra rb T U st1 rx ry nd rz S' e Q fun v H' Φ' A' V F' G' s2 st2 rv nd2 f2 => ?_
    exact q v H' Φ' A' V F' G' (Step.trans (T := []) (T1 := V) (F1 := T ++ (U ++ F1)) sp s2) st2 rv nd2 (fz.trans f2)
theorem de_bin {op : Operator} {r : R2} {g : G2} (ho : OpR X (binaryOp op) r) (hg : OpG X.K r g) (ha : DE X W a ta fa) (hb : DE X W b tb fb) : DE X W (.BinOp a op b pos) (tOp r ta tb) (fBin g fa fb) :=
  ⟨pe_op ho ha.pe hb.pe, ev_bin hg ha.ev hb.ev⟩
theorem de_cmp {op : CmpOp} {r : R2} {g : G2} (ho : OpR X (compareOp op) r) (hg : OpG X.K r g) (ha : DE X W a ta fa) (hb : DE X W b tb fb) (hm : behindInMarks op b = false := by rfl) : DE X W (.Compare a [op] [b] pos) (tOp r ta tb) (fBin g fa fb) :=
  ⟨pe_cmpR ho ha.pe hb.pe hm, ev_bin hg ha.ev hb.ev⟩
noncomputable def R.bl (S : Sto) (r : R) : Option Bool := match r.sv S with
  | some (.dat (.bl b)) => some b
  | _ => none
theorem RV.bl {K : PySem.W.Frag} {S : Sto} {σ : Sl} {H Φ : Hp} {A F G T : List Addr} {v : V} {r : R} (st : Stands K S σ H Φ A F G) (h : RV K Φ H A S σ v r T) {b : Bool} (e : r.bl S = some b) : v = .bl b := by
  unfold R.bl at e
  cases ex : r.sv S with
  | none => rw [ex] at e; cases e
  | some x =>
    rw [ex] at e
    cases x with
    | dat d =>
      cases d with
      | bl c =>
        cases e
        cases RV.dat st h ex
        rfl
      | _ => cases e
    | _ => cases e
noncomputable def fTest (f : FE) : FT := bindE f fun r S => (r.bl S).map fun b => .ok b S
theorem ev_test {K : PySem.W.Frag} {t : TE} {f : FE} (h : EV K W t f) : EVT K W (tTest t) (fTest f) := fun S σ H Φ A F G st out ho Q q => by
  refine run1 h st ho q.x fun r S1 v H1 Φ1 A1 T F1 G1 sp st1 rv nd fz h1 => ?_
  cases e : r.bl S1 with
  | none => rw [e] at h1; cases h1
  | some b =>
    rw [e] at h1; cases h1
    exact ⟨b, rv.bl st1 e, q H1 Φ1 A1 F1 G1 sp.drop st1 fz⟩
theorem dt_cmp {op : CmpOp} {r : R2} {g : G2} (ho : OpR X (compareOp op) r) (hg : OpG X.K r g) (ha : DE X W a ta fa) (hb : DE X W b tb fb) (hm : behindInMarks op b = false := by rfl) : DT X W (.Compare a [op] [b] pos) (tTest (tOp r ta tb)) (fTest (fBin g fa fb)) :=
  ⟨pt_cmpR ho ha.pe hb.pe hm, ev_test (ev_bin hg ha.ev hb.ev)⟩
noncomputable def g2 (g : D → D → Option D) : G2 := fun ra rb S => match ra.peek S, rb.peek S with
  | some x, some y => (g x y).map fun z => (.d z, S)
  | _, _ => none
theorem opG_scal {K : PySem.W.Frag} {r : R2} {g : D → D → Option D} (h : ∀ H x y dx dy z, Rp K H x dx → Rp K H y dy → g dx dy = some z → ∀ Q, (∀ v, (∀ H', Rp K H' v z) → Q v H) → r x y H Q) : OpG K r (g2 g) := by
  intro S σ H Φ A F G x y ra rb T U st rx ry nd rz S' e Q q
  unfold g2 at e
  cases e1 : ra.peek S with
  | none => rw [e1] at e; cases e
  | some dx =>
    cases e2 : rb.peek S with
    | none => rw [e1, e2] at e; cases e
    | some dy =>
      rw [e1, e2] at e
      cases e3 : g dx dy with
      | none => simp only [e3] at e; cases e
      | some z =>
        simp only [e3] at e
        cases e
        refine h H x y dx dy z (rx.rp st e1) (ry.rp st e2) e3 Q fun v hv => ?_
        exact q v H Φ A [] F G ⟨fun _ _ e _ => e, fun _ _ e => e, fun _ _ e => .inl e, fun b hb => .inl (by simp only [List.nil_append] at hb; simp [hb]), fun _ h => .inl h, fun _ h => h, Pfx.refl⟩ st (RS.dat (hv _)) (by simpa using st.nd) .refl
noncomputable def dI (f : Int → Int → Option D) : D → D → Option D
  | .int i, .int j => f i j
  | _, _ => none
theorem opG_int {K : PySem.W.Frag} {C : Int → Int → Prop} {f : Int → Int → V} {g : Int → Int → Option D} (h : ∀ i j z, g i j = some z → C i j ∧ ∀ H, Rp K H (f i j) z) : OpG K (rI C f) (g2 (dI g)) := opG_scal fun H x y dx dy z rx ry e Q q => by
  cases rx <;> try cases e
  cases ry <;> try cases e
  obtain ⟨c, r⟩ := h _ _ _ e
  exact ⟨_, _, rfl, rfl, c, q _ r⟩
theorem opG_int0 {K : PySem.W.Frag} {f : Int → Int → V} {g : Int → Int → Option D} (h : ∀ i j z, g i j = some z → ∀ H, Rp K H (f i j) z) : OpG K (rI0 f) (g2 (dI g)) := opG_scal fun H x y dx dy z rx ry e Q q => by
  cases rx <;> try cases e
  cases ry <;> try cases e
  exact ⟨_, _, rfl, rfl, q _ (h _ _ _ e)⟩
noncomputable def iAdd : Int → Int → Option D := fun i j => some (.int (i + j))
noncomputable def iSub : Int → Int → Option D := fun i j => some (.int (i - j))
noncomputable def iMul : Int → Int → Option D := fun i j => if (-(2 ^ 64) < i ∧ i < 2 ^ 64) ∨ (-(2 ^ 64) < j ∧ j < 2 ^ 64) then some (.int (i * j)) else none
noncomputable def iDiv : Int → Int → Option D := fun i j => if 0 < j ∧ j < 1073741824 then some (.int (i / j)) else none
noncomputable def iMod : Int → Int → Option D := fun i j => if 0 < j then some (.int (i % j)) else none
noncomputable def iPow : Int → Int → Option D := fun i j => if 0 ≤ j ∧ j ≤ 1000000 ∧ i.natAbs < 2 ^ 64 then some (.int (i ^ j.toNat)) else none
theorem og_sub {K : PySem.W.Frag} : OpG K (rI0 fun i j => .int (i - j)) (g2 (dI iSub)) := opG_int0 fun i j z e H => by cases e; exact .int _
theorem og_div {K : PySem.W.Frag} : OpG K (rI CDiv fun i j => .int (i / j)) (g2 (dI iDiv)) := opG_int fun i j z e => by
  unfold iDiv at e; split at e
  · cases e; exact ⟨by assumption, fun H => .int _⟩
  · cases e
theorem og_mod {K : PySem.W.Frag} : OpG K (rI (fun _ j => 0 < j) fun i j => .int (i % j)) (g2 (dI iMod)) := opG_int fun i j z e => by
  unfold iMod at e; split at e
  · cases e; exact ⟨by assumption, fun H => .int _⟩
  · cases e
theorem og_pow {K : PySem.W.Frag} : OpG K (rI CPow fun i j => .int (i ^ j.toNat)) (g2 (dI iPow)) := opG_int fun i j z e => by
  unfold iPow at e; split at e
  · cases e; exact ⟨by assumption, fun H => .int _⟩
  · cases e
noncomputable def truD : D → Option Bool
  | .non => some false
  | .bl b => some b
  | .int i => some (i != 0)
  | .str x => if x.length ≤ sizeLine then some ((x.length : Int) != 0) else none
  | .lst ds => some (!ds.isEmpty)
  | .tup ds => some (!ds.isEmpty)
  | .dK ks ds => some (!(ks.zip ds).isEmpty)
  | _ => none
theorem zip_empty {α β γ : Type} : ∀ {ks : List α} {vs : List β} {ds : List γ}, vs.length = ds.length → (!(ks.zip vs).isEmpty) = !(ks.zip ds).isEmpty
  | [], _, _, _ => rfl
  | _ :: _, [], [], _ => rfl
  | _ :: _, _ :: _, _ :: _, _ => rfl
  | _ :: _, [], _ :: _, h => by simp at h
  | _ :: _, _ :: _, [], h => by simp at h
theorem isEmpty_rps {K : PySem.W.Frag} {H : Hp} {vs : List V} {ds : List D} (h : Rps K H vs ds) : (!vs.isEmpty) = !ds.isEmpty := by cases h <;> rfl
noncomputable def R.tru (S : Sto) (r : R) : Option Bool := match r.sv S with
  | some (.dat (.dK _ _)) => none
  | some x => x.peek.bind truD
  | none => none
theorem RV.tru {K : PySem.W.Frag} {S : Sto} {σ : Sl} {H Φ : Hp} {A F G T : List Addr} {v : V} {r : R} (st : Stands K S σ H Φ A F G) (h : RV K Φ H A S σ v r T) {k : Bool} (e : r.tru S = some k) : TruV K v H k := by
  unfold R.tru at e
  cases ex : r.sv S with
  | none => rw [ex] at e; cases e
  | some x =>
    obtain ⟨U, q, _⟩ := RV.rs st h ex
    rw [ex] at e
    cases x with
    | cell k => cases e
    | dat d =>
      cases q with
      | dat q =>
        cases d with
        | dK ks ds => cases e
        | dT ks ds => cases e
        | wK ks ds => cases e
        | wT ks ds => cases e
        | fn f => cases e
        | exc c ns xs => cases e
        | kl ds => cases e
        | kt ds => cases e
        | non => cases e; cases q; rfl
        | bl b => cases e; cases q; rfl
        | int i => cases e; cases q; rfl
        | str x =>
          have e : (if x.length ≤ sizeLine then some ((x.length : Int) != 0) else none) = some k := e
          split at e
          · cases e; cases q; exact ⟨by assumption, rfl⟩
          · cases e
        | lst ds =>
          cases e
          cases q with
          | lst q q2 => exact .inl ⟨_, .inl (.inl (st.le _ _ q)), (isEmpty_rps q2).symm⟩
        | tup ds =>
          cases e
          cases q with
          | tup q q2 => exact .inr (.inl ⟨_, .inl (.inl (st.le _ _ q)), (isEmpty_rps q2).symm⟩)
    | node n xs =>
      cases q with
      | node ea f pa q =>
        cases n with
        | lst =>
          have e : ((peeks xs).map D.lst).bind truD = some k := e
          cases e2 : peeks xs with
          | none => rw [e2] at e; cases e
          | some ds =>
            rw [e2] at e; cases e
            exact .inl ⟨_, .inl (.inl ea), (isEmpty_rps (RSs.rp st.le q e2)).symm⟩
        | dK ks =>
          have e : ((peeks xs).map (D.dK ks)).bind truD = some k := e
          cases e2 : peeks xs with
          | none => rw [e2] at e; cases e
          | some ds =>
            rw [e2] at e; cases e
            exact .inr (.inr ⟨_, ea, (zip_empty (RSs.rp st.le q e2).length).symm⟩)
        | dT ks =>
          have e : ((peeks xs).map (D.dT ks)).bind truD = some k := e
          cases e2 : peeks xs <;> rw [e2] at e <;> cases e
        | ins C dx ks => cases e
noncomputable def fTru (f : FE) : FT := bindE f fun r S => (r.tru S).map fun b => .ok b S
theorem dt_truth (h : DE X W e ta fa) (he : ∀ whole, isTrue e X.env whole = (do let v ← whole; standAt e.pos; holding [v] (truthy v)) := by intro _; rfl) : DT X W e (fun σ H Q => ta σ H fun x H' => ∃ k, TruV X.K x H' k ∧ Q k H') (fTru fa) := by
  refine ⟨pt_truth h.pe he, fun S σ H Φ A F G st out ho Q q => ?_⟩
  refine run1 h.ev st ho q.x fun r S1 v H1 Φ1 A1 T F1 G1 sp st1 rv nd fz h1 => ?_
  cases e1 : r.tru S1 with
  | none => rw [e1] at h1; cases h1
  | some b =>
    rw [e1] at h1; cases h1
    exact ⟨b, rv.tru st1 e1, q H1 Φ1 A1 F1 G1 sp.drop st1 fz⟩
variable {tA tB' : TT} {fA fB : FT} {rest : List Expr}
noncomputable def fAnd (fa fb : FT) : FT := bindE fa fun c => if c = true then fb else retE false
noncomputable def fOr (fa fb : FT) : FT := bindE fa fun c => if c = true then retE true else fb
noncomputable def fNot (fa : FT) : FT := bindE fa fun c => retE (!c)
noncomputable def fIfE (fc : FT) (fa fb : FE) : FE := bindE fc fun c => if c = true then fa else fb
theorem evt_at {K : PySem.W.Frag} {S S1 : Sto} {σ : Sl} {H Φ H1 Φ1 : Hp} {A A1 F G F1 G1 : List Addr} {out : Out Bool} {Q : Bool → Hp → Prop} (q : PostT K W S σ H Φ A F G Q out) (sp : Step F G H Φ A F1 G1 H1 Φ1 A1) (fz : Frz S S1) : PostT K W S1 σ H1 Φ1 A1 F1 G1 Q out := by
  cases out with
  | ok b S' => exact fun H' Φ' A' F' G' s2 st f2 => q H' Φ' A' F' G' (sp.trans0 s2) st (fz.trans f2)
  | exc e S' => exact fun c d H' Φ' A' F' G' s2 st rx f2 => q c d H' Φ' A' F' G' (sp.trans0 s2) st rx (fz.trans f2)
theorem ev_and {K : PySem.W.Frag} {t u : TT} {fa fb : FT} (ha : EVT K W t fa) (hb : EVT K W u fb) : EVT K W (tAnd t u) (fAnd fa fb) := fun S σ H Φ A F G st out ho Q q => by
  refine runT (t := t) ha st ho q.x fun b S1 H1 Φ1 A1 F1 G1 sp st1 fz h1 => ?_
  cases b with
  | true => rw [if_pos rfl] at h1 ⊢; exact hb S1 σ H1 Φ1 A1 F1 G1 st1 out h1 Q (evt_at q sp fz)
  | false => rw [if_neg (by decide)] at h1 ⊢; cases h1; exact q H1 Φ1 A1 F1 G1 sp st1 fz
theorem ev_or {K : PySem.W.Frag} {t u : TT} {fa fb : FT} (ha : EVT K W t fa) (hb : EVT K W u fb) : EVT K W (tOr t u) (fOr fa fb) := fun S σ H Φ A F G st out ho Q q => by
  refine runT (t := t) ha st ho q.x fun b S1 H1 Φ1 A1 F1 G1 sp st1 fz h1 => ?_
  cases b with
  | true => rw [if_pos rfl] at h1 ⊢; cases h1; exact q H1 Φ1 A1 F1 G1 sp st1 fz
  | false => rw [if_neg (by decide)] at h1 ⊢; exact hb S1 σ H1 Φ1 A1 F1 G1 st1 out h1 Q (evt_at q sp fz)
theorem dw_and1 (h : DT X W a tA fA) : DW X W (.BoolOp .And [a] pos) tA fA := ⟨pw_and1 h.pe, h.ev⟩
theorem dw_or1 (h : DT X W a tA fA) : DW X W (.BoolOp .Or [a] pos) tA fA := ⟨pw_or1 h.pe, h.ev⟩
theorem dw_and (h : DT X W a tA fA) (h2 : DW X W (.BoolOp .And (b :: rest) pos) tB' fB) : DW X W (.BoolOp .And (a :: b :: rest) pos) (tAnd tA tB') (fAnd fA fB) := ⟨pw_and h.pe h2.pe, ev_and h.ev h2.ev⟩
theorem dw_or (h : DT X W a tA fA) (h2 : DW X W (.BoolOp .Or (b :: rest) pos) tB' fB) : DW X W (.BoolOp .Or (a :: b :: rest) pos) (tOr tA tB') (fOr fA fB) := ⟨pw_or h.pe h2.pe, ev_or h.ev h2.ev⟩
theorem DW.dt (h : DW X W e tA fA) : DT X W e tA fA := ⟨h.pe.pt, h.ev⟩
theorem dt_not (h : DT X W a tA fA) : DT X W (.UnaryOp .Not a pos) (tNot tA) (fNot fA) := ⟨pt_not h.pe, fun S σ H Φ A F G st out ho Q q => by
  refine runT (t := tA) h.ev st ho q.x fun b S1 H1 Φ1 A1 F1 G1 sp st1 fz h1 => ?_
  cases h1
  exact q H1 Φ1 A1 F1 G1 sp st1 fz⟩
theorem PostE.at0 {K : PySem.W.Frag} {S S1 : Sto} {σ : Sl} {H Φ H1 Φ1 : Hp} {A A1 F G F1 G1 : List Addr} {out : Out R} {Q : VK} (q : PostE K W S σ H Φ A F G Q out) (sp : Step F G H Φ A F1 G1 H1 Φ1 A1) (fz : Frz S S1) : PostE K W S1 σ H1 Φ1 A1 F1 G1 Q out := PostE.at (T := []) q sp fz
theorem de_ifE (hc : DT X W c tA fA) (ha : DE X W a ta fa) (hb : DE X W b tb fb) : DE X W (.IfExp c a b pos) (tIf tA ta tb) (fIfE fA fa fb) := ⟨pe_ifExp hc.pe ha.pe hb.pe, fun S σ H Φ A F G st out ho Q q => by
  refine runT hc.ev st ho q.x fun b S1 H1 Φ1 A1 F1 G1 sp st1 fz h1 => ?_
  cases b with
  | true => rw [if_pos rfl] at h1 ⊢; exact ha.ev S1 σ H1 Φ1 A1 F1 G1 st1 out h1 Q (q.at0 sp fz)
  | false => rw [if_neg (by decide)] at h1 ⊢; exact hb.ev S1 σ H1 Φ1 A1 F1 G1 st1 out h1 Q (q.at0 sp fz)⟩
noncomputable def fOrV (fa fb : FE) : FE := bindE fa fun r S => match r.tru S with
  | some true => some (.ok r S)
  | some false => fb S
  | none => none
noncomputable def fAndV (fa fb : FE) : FE := bindE fa fun r S => match r.tru S with
  | some true => fb S
  | some false => some (.ok r S)
  | none => none
noncomputable def fNotV (fa : FE) : FE := bindE fa fun r S => (r.tru S).map fun k => .ok (.b (!k)) S
theorem de_andV (ha : DE X W a ta fa) (hb : DE X W (.BoolOp .And (b :: rest) pos) tb fb) : DE X W (.BoolOp .And (a :: b :: rest) pos) (tAndT X.K ta tb) (fAndV fa fb) := ⟨pe_andT ha.pe hb.pe, fun S σ H Φ A F G st out ho Q q => by
  refine run1 (t := ta) ha.ev st ho q.x fun r S1 v H1 Φ1 A1 T F1 G1 sp st1 rv nd fz h1 => ?_
  cases e : r.tru S1 with
  | none => rw [e] at h1; cases h1
  | some k =>
    rw [e] at h1
    refine ⟨k, rv.tru st1 e, ?_⟩
    cases k with
    | true => rw [if_pos rfl]; exact hb.ev S1 σ H1 Φ1 A1 F1 G1 st1 out h1 Q (q.at0 sp.drop fz)
    | false => rw [if_neg (by decide)]; cases h1; exact q v H1 Φ1 A1 T F1 G1 sp st1 rv nd fz⟩
theorem de_one {op : BoolOp} (h : DE X W a ta fa) : DE X W (.BoolOp op [a] pos) ta fa := ⟨pe_one h.pe, h.ev⟩
theorem de_notV (ha : DE X W a ta fa) : DE X W (.UnaryOp .Not a pos) (tNotT X.K ta) (fNotV fa) := ⟨pe_notT ha.pe, fun S σ H Φ A F G st out ho Q q => by
  refine run1 (t := ta) ha.ev st ho q.x fun r S1 v H1 Φ1 A1 T F1 G1 sp st1 rv nd fz h1 => ?_
  cases e : r.tru S1 with
  | none => rw [e] at h1; cases h1
  | some k =>
    rw [e] at h1; cases h1
    exact ⟨k, rv.tru st1 e, q _ H1 Φ1 A1 [] F1 G1 (by simpa using sp.drop) st1 (RS.dat (.bl _)) (by simpa using st1.nd) fz⟩⟩
end
end L3
namespace L3
open PySem PySem.Spec PyProof.Rows L2
structure FG (P : Program) (w : World) (K : PySem.W.Frag) (mg : Str → Option Value) (base : Heap) (k : Nat) (f : Addr) (fd : FuncData) (ps : List Str) (sp : Sp) : Prop where
  len : ∀ vs H Q E, sp vs H Q E → vs.length = ps.length
  go : ∀ (A : Around) (outer : List Env) (s : Shared) (H : Hp) (args : Args) (us : List Value) (vs : List V) (Q : VK) (E : XK), Room k A → A.guards = some [] →
    Env0 P w K mg base A outer s H → BindsTo s fd args (ps.zip us) → Vals vs us → sp vs H Q E → codeAny (model P w) A (.call (.ref f) args) (CR (L2N.CX P w) outer P w H s Q E) s
structure FunV (K : PySem.W.Frag) (x qual : Str) (st : Stmt) (f : Addr) (fd : FuncData) (dV : Value) : Prop where
  ex : ∃ (oc : Value) (od : Option Addr) (kV doc pm : Value) (an : Option Addr) (cdv ct : Value) (osl : Array (Option Value)),
    fd = PySem.W.fnOf x qual (defArgs st) (defBody st) (defScope st) dV kV doc pm an cdv ct ∧ K.lookup f = some ⟨oc, od, .func fd, osl⟩ ∧ PySem.W.codeIn K cdv qual = true
  kp : PySem.W.keepIn K (.ref f) = true
theorem funV_mk {K : PySem.W.Frag} {x qual : Str} {st : Stmt} {f : Addr} {oc : Value} {od an : Option Addr} {osl : Array (Option Value)} {dV kV doc pm cdv ct : Value} (l : K.lookup f = some ⟨oc, od, .func (PySem.W.fnOf x qual (defArgs st) (defBody st) (defScope st) dV kV doc pm an cdv ct), osl⟩)
    (c : PySem.W.codeIn K cdv qual = true) (k : PySem.W.keepIn K (.ref f) = true) : FunV K x qual st f (PySem.W.fnOf x qual (defArgs st) (defBody st) (defScope st) dV kV doc pm an cdv ct) dV := ⟨⟨oc, od, kV, doc, pm, an, cdv, ct, osl, rfl, l, c⟩, k⟩
theorem FunV.binds {K : PySem.W.Frag} {x qual : Str} {st : Stmt} {f : Addr} {fd : FuncData} {ps : List Str} (F : FunV K x qual st f fd .none)
    (h : ∀ (kV doc pm : Value) (an : Option Addr) (cdv ct : Value) (us : List Value), us.length = ps.length → bindArgs (PySem.W.fnOf x qual (defArgs st) (defBody st) (defScope st) .none kV doc pm an cdv ct) ⟨us, []⟩ = pure (ps.zip us)) : Binds K fd ps [] := by
  obtain ⟨oc, od, kV, doc, pm, an, cdv, ct, osl, rfl, lk, hcd⟩ := F.ex
  exact .all (h kV doc pm an cdv ct)
section
variable {P : Program} {w : World} {K : PySem.W.Frag} {mg : Str → Option Value} {base : Heap}
theorem fg_of {x qual : Str} {st : Stmt} {f : Addr} {fd : FuncData} {dV : Value} {N ps : List Str} {k : Nat} {sp : Sp} (T : FunV K x qual st f fd dV) (C : FnScope N ps (defScope st)) (len : ∀ vs H Q E, sp vs H Q E → vs.length = ps.length)
    (body : ∀ (cdv : Value) (A : Around) (outer : List Env) (s : Shared) (H : Hp) (vs : List V) (Q : VK) (E : XK), Room k (A.deeper (envOfC qual (defScope st) s.heap.objs.size f cdv)) → A.guards = some [] → sp vs H Q E →
      ∃ t, PSs (cxOf (L2N.CX P w) P w K mg base N qual (defScope st) f cdv A outer s H E) (defBody st) t ∧ t { nx := fun _ H' => Q .non H', rt := Q } (start N vs) H) : FG P w K mg base (k + 1) f fd ps sp := by
  obtain ⟨oc, od, kV, doc, pm, an, cdv, ct, osl, e, lk, ck⟩ := T.ex
  subst e
  refine ⟨len, fun A outer s H args us vs Q E room gd e0 bd rel want => ?_⟩
  have kx : K.In s.heap := e0.mod.kin.keeps (fun b o q => (e0.bs b o q).1)
  have nl : s.heap.NoLimit := e0.mod.nolimit.keeps (fun b o q => (e0.bs b o q).1)
  have many := len vs H Q E want
  have kinds : ∀ y, y ∈ ps.zip us → (defScope st).names.lookup y.1 = some .local ∨ ((defScope st).names.lookup y.1 = some .cell ∧ ((cellsFrom (s.heap.objs.size + 1) (defScope st).names []).lookup y.1).isSome = true) := by
    rintro ⟨n, u⟩ hy
    have hn : n ∈ ps := (List.of_mem_zip hy).1
    exact (C.par n hn).imp id (fun q => ⟨q, PySem.W.cellsFrom_some _ _ _ (Or.inl q)⟩)
  apply codeAny_call_function (Room.depth room) (kx f _ lk) rfl C.co C.gen rfl (PySem.W.codeRec_of kx ck)
  refine bd _ _ _ _ (wpAny_newFunctionEnv_cells C.kind kinds (fun en ee s1 xx => ?_))
  cases ee
  refine ⟨nl.keeps xx.toInCall.keep, ?_⟩
  apply codeAny_func
  obtain ⟨t, pt, tq⟩ := body cdv A outer s H vs Q E (Room.deeper room _) gd want
  have iv := inv_start (CX := L2N.CX P w) (N := N) (E := E) C (Room.hd room) e0 many rel xx
  have endOf : ∀ {σ' : Sl} {H' : Hp} {v : V} {u : Value} {s' : Shared}, Inv (cxOf (L2N.CX P w) P w K mg base N qual (defScope st) f cdv A outer s H E) [] σ' H' s' → RelV v u → Q v H' → CE outer P w H s Q u s' := by
    intro σ' H' v u s' j rv qv
    exact ⟨v, H', j.os, j.bare, j.base, j.hok, rv, qv⟩
  refine wpAny_mono (pt.run [] s1 (start N vs) H _ iv tq) ?_ (fun _ _ q => q)
  intro fl s' post
  match fl, post with
  | .ret u, ⟨v, σ', H', j, rv, qv⟩ => exact endOf j rv qv
  | .next, ⟨σ', H', j, qv⟩ => exact endOf (v := V.non) (u := Value.none) j rfl qv
  | .brk, ⟨_, _, _, z⟩ => exact z.elim
  | .cont, ⟨_, _, _, z⟩ => exact z.elim
end
section
variable {X : Cx} {k : Nat} {f : Addr} {fd : FuncData} {ps : List Str} {sp : Sp} {W : WX} {x : Str} {p pos : Pos} {e : Expr} {es : List Expr} {t : TA} {ds : List Value} {dvs : List V}
theorem go_fn {pins : List (Addr × Obj)} {σ : Sl} {H : Hp} {s : Shared} {Q : VK} {us : List Value} {vs : List V} (h : FG X.prog X.w X.K X.mg X.base k f fd ps sp) (room : Room k X.A) (gd : X.A.guards = some []) (bd : Binds X.K fd ps ds) (dd : Vals dvs ds) (tk : L2N.Takes X W)
    (I : Inv X pins σ H s) (rel : Vals vs us) (want : sp (vs ++ dvs) H Q (WE W σ)) : wpAny (model X.prog X.w) X.A (call (.ref f) us) (EP X pins σ Q) X.xe s := by
  have rel2 := rel.append dd
  have many : (us ++ ds).length = ps.length := rel2.length.symm.trans (h.len _ _ _ _ want)
  apply wpAny_call
  refine codeAny_mono (h.go X.A X.stack s H ⟨us, []⟩ (us ++ ds) (vs ++ dvs) Q (WE W σ) room gd I.env0 (bd s us I.kIn many) rel2 want) ?_
  intro r s' post
  match r, post with
  | .error e, z => exact L2N.passAt tk σ pins H s e s' I z
  | .ok (.ret u), z => exact I.after z
  | .ok .next, z => exact z.elim
  | .ok .brk, z => exact z.elim
  | .ok .cont, z => exact z.elim
noncomputable def tGo (W : WX) (sp : Sp) (dvs : List V) (t : TA) : TE := fun σ H Q => t σ H fun vs H1 => sp (vs ++ dvs) H1 Q (WE W σ)
theorem pe_go (h : FG X.prog X.w X.K X.mg X.base k f fd ps sp) (room : Room k X.A) (gd : X.A.guards = some []) (hg : Gl X x) (hm : X.mg x = some (.ref f)) (hk : PySem.W.keepIn X.K (.ref f) = true) (bd : Binds X.K fd ps ds) (dd : Vals dvs ds) (tk : L2N.Takes X W)
    (ha : PA X (e :: es) t) (hdb : (x == ("__debug__" : Str)) = false := by decide) (he : starEach (e :: es) X.env = (false, eval e X.env) :: starEach es X.env := by rfl) (hpl : (backTo pos (starEach es X.env)).any (·.1) = false := by rfl) : PE X (.Call (.Name x p) (e :: es) [] pos) (tGo W sp dvs t) :=
  ⟨fun pins s σ H Q I want => wpAny_Call_Name_kw (ld_glob I hg hm (PySem.W.callWith_K (h₀ := X.base) I.ok.mod.kin hk (thn (ha.run pos pins s σ H _ I want) fun us s1 ⟨vs, H1, I1, rel, w1⟩ => ⟨I1.kIn, go_fn h room gd bd dd tk I1 rel w1⟩) he hpl) hdb)⟩
end
inductive Res where
  | ok (x : SV) (μ : List SV) | exc (e : Ex) (μ : List SV)
noncomputable abbrev FnS := List SV → List SV → Option Res
noncomputable def PostF (K : PySem.W.Frag) (H Φ : Hp) (A G : List Addr) (Q : VK) (E : XK) : Res → Prop
  | .ok x μ => ∀ v H' Φ' A' T G', Step [] G H Φ A T G' H' Φ' A' → Stands K ⟨[], μ⟩ [] H' Φ' A' [] G' → RS K Φ' H' A' v x T → (T ++ G').Nodup → Q v H'
  | .exc e μ => ∀ c d H' Φ' A' G', Step [] G H Φ A [] G' H' Φ' A' → Stands K ⟨[], μ⟩ [] H' Φ' A' [] G' → RX K Φ' H' e c d → E c d H'
noncomputable def spF (K : PySem.W.Frag) (n : Nat) (f : FnS) : Sp := fun vs H Q E => vs.length = n ∧ ∃ Φ A G μ as res, Stands K ⟨[], μ⟩ [] H Φ A [] G ∧ RSs K Φ H A vs as [] ∧ f as μ = some res ∧ PostF K H Φ A G Q E res
noncomputable def R.arg (S : Sto) (r : R) : Option (SV × Sto) := match r.sv S with
  | some (.cell k) => some (.cell k, S)
  | _ => match r.esc S with
    | some (d, S1) => some (.dat d, S1)
    | none => none
noncomputable def argsOf : List R → Sto → Option (List SV × Sto)
  | [], S => some ([], S)
  | r :: rs, S => match r.arg S with
    | some (x, S1) => match argsOf rs S1 with
      | some (xs, S2) => some (x :: xs, S2)
      | none => none
    | none => none
section
variable {K : PySem.W.Frag} {W : WX} {S S' : Sto} {σ : Sl} {H Φ : Hp} {A F G T : List Addr} {v : V} {r : R}
theorem arg_ok {x : SV} (st : Stands K S σ H Φ A F G) (h : RV K Φ H A S σ v r T) (nd : (T ++ (F ++ G)).Nodup) (e : r.arg S = some (x, S')) :
    ∃ Φ' F', Step (T ++ F) G H Φ A F' G H Φ' A ∧ Stands K S' σ H Φ' A F' G ∧ RS K Φ' H A v x [] ∧ Frz S S' := by
  have other : ∀ d S1, r.esc S = some (d, S1) → x = .dat d → S' = S1 → ∃ Φ' F', Step (T ++ F) G H Φ A F' G H Φ' A ∧ Stands K S' σ H Φ' A F' G ∧ RS K Φ' H A v x [] ∧ Frz S S' := fun d S1 e1 ex eS => by
    subst ex eS
    obtain ⟨Φ1, F1, sp1, st1, rp1, fz1⟩ := esc_ok st h nd e1
    exact ⟨Φ1, F1, sp1, st1, .dat rp1, fz1⟩
  have go : (match r.esc S with | some (d, S1) => some (SV.dat d, S1) | none => none) = some (x, S') → ∃ Φ' F', Step (T ++ F) G H Φ A F' G H Φ' A ∧ Stands K S' σ H Φ' A F' G ∧ RS K Φ' H A v x [] ∧ Frz S S' := fun e => by
    cases e1 : r.esc S with
    | none => rw [e1] at e; cases e
    | some dS => obtain ⟨d, S1⟩ := dS; rw [e1] at e; cases e; exact other _ _ e1 rfl rfl
  unfold R.arg at e
  cases ex : r.sv S with
  | none => rw [ex] at e; exact go e
  | some y =>
    rw [ex] at e
    cases y with
    | dat d => exact go e
    | node n xs => exact go e
    | cell k =>
      cases e
      obtain ⟨U, q, _⟩ := RV.rs st h ex
      cases q with
      | cell q => exact ⟨Φ, F, ⟨fun _ _ e _ => e, fun _ _ e => e, fun _ _ e => .inl e, fun b hb => .inl (List.mem_append_right _ hb), fun _ h => .inl h, fun _ h => h, Pfx.refl⟩, st, .cell q, .refl⟩
theorem args_ok : ∀ {vs : List V} {rs : List R} {T : List Addr} {S : Sto} {Φ : Hp} {F : List Addr} {xs : List SV}, Stands K S σ H Φ A F G → RVs K Φ H A S σ vs rs T → (T ++ (F ++ G)).Nodup → argsOf rs S = some (xs, S') →
    ∃ Φ' F', Step (T ++ F) G H Φ A F' G H Φ' A ∧ Stands K S' σ H Φ' A F' G ∧ RSs K Φ' H A vs xs [] ∧ Frz S S'
  | _, _, _, S, Φ, F, _, st, .nil, nd, e => by
    cases e
    exact ⟨Φ, F, by rw [List.nil_append]; exact .refl, st, .nil, .refl⟩
  | _, _, _, S, Φ, F, xs, st, .cons (r := r) (rs := rs) (T := T) (U := U) q qs, nd, e => by
    unfold argsOf at e
    cases e1 : r.arg S with
    | none => rw [e1] at e; cases e
    | some dS =>
      obtain ⟨x, S1⟩ := dS
      rw [e1] at e
      dsimp only at e
      cases e2 : argsOf rs S1 with
      | none => rw [e2] at e; cases e
      | some dS2 =>
        obtain ⟨xs2, S2⟩ := dS2
        rw [e2] at e; cases e
        obtain ⟨Φ1, F1, sp1, st1, rp1, fz1⟩ := arg_ok st q (nd_left nd) e1
        have nd' : (U ++ ((T ++ F) ++ G)).Nodup := by
          simp only [List.nodup_append, List.mem_append] at nd ⊢; grind
        have qs1 := RVs.step' st sp1 fz1 qs nd'
        have nd1 : (U ++ (F1 ++ G)).Nodup := sp1.apart (fun b hb => (qs.there b hb).1.ne) nd' st1.nd
        obtain ⟨Φ2, F2, sp2, st2, rp2, fz2⟩ := args_ok st1 qs1 nd1 e2
        have s3 : Step ((T ++ U) ++ F) G H Φ A (U ++ F1) G H Φ1 A := ⟨fun _ _ e _ => e, sp1.le, fun b o e => by
            rcases sp1.grow b o e with h | h | h | h
            · exact .inl h
            · exact .inr (.inl (by simp only [List.mem_append] at h ⊢; grind))
            · exact .inr (.inr (.inl h))
            · exact .inr (.inr (.inr h)), fun b hb => by
            rcases List.mem_append.mp hb with h | h
            · exact .inl (by simp [h])
            · rcases sp1.ownF b h with h | h | h
              · exact .inl (by simp only [List.mem_append] at h ⊢; grind)
              · exact .inr (.inl h)
              · exact .inr (.inr h), fun _ h => .inl h, fun _ h => h, Pfx.refl⟩
        have r1 : RSs K Φ2 H A _ (x :: xs2) ([] ++ []) := .cons (rp1.frame sp2.le Pfx.refl (fun _ _ => rfl) (fun b hb => by simp at hb)) rp2
        exact ⟨Φ2, F2, s3.trans0 sp2, st2, r1, fz1.trans fz2⟩
theorem RSs.app {A : List Addr} : ∀ {vs ws : List V} {xs ys : List SV} {F1 F2 : List Addr}, RSs K Φ H A vs xs F1 → RSs K Φ H A ws ys F2 → RSs K Φ H A (vs ++ ws) (xs ++ ys) (F1 ++ F2)
  | _, _, _, _, _, _, .nil, s => s
  | _, _, _, _, _, _, .cons q r, s => by rw [List.append_assoc]; exact .cons q (RSs.app r s)
end
noncomputable def fGo (f : FnS) (dfl : List SV) (fa : FA) : FE := bindE fa fun rs S => match argsOf rs S with
  | some (as, S1) => match f (as ++ dfl) S1.μ with
    | some (.ok x μ) => some (.ok (.val x) { S1 with μ := μ })
    | some (.exc e μ) => some (.exc e { S1 with μ := μ })
    | none => none
  | none => none
noncomputable def Dfl (K : PySem.W.Frag) (dvs : List V) (dfl : List SV) : Prop := ∀ Φ H A, RSs K Φ H A dvs dfl []
theorem dfl_nil {K : PySem.W.Frag} : Dfl K [] [] := fun _ _ _ => .nil
theorem dfl_cons {K : PySem.W.Frag} {v : V} {d : D} {vs : List V} {xs : List SV} (h : ∀ H, Rp K H v d) (t : Dfl K vs xs) : Dfl K (v :: vs) (.dat d :: xs) := fun Φ H A => .cons (F := []) (.dat (h _)) (t Φ H A)
theorem frz_mu {S : Sto} {μ : List SV} : Frz S { S with μ := μ } := Frz.of rfl
theorem ev_go {K : PySem.W.Frag} {W : WX} {f : FnS} {n : Nat} {dvs : List V} {dfl : List SV} {t : TA} {fa : FA} (hd : Dfl K dvs dfl) (hl : ∀ as μ res, f as μ = some res → as.length = n) (ha : EVA K W t fa) : EV K W (tGo W (spF K n f) dvs t) (fGo f dfl fa) := fun S σ H Φ A F G st out ho Q q => by
  refine runA (t := t) ha st ho q.x fun rs S1 vs H1 Φ1 A1 T F1 G1 sp st1 rv nd fz h1 => ?_
  cases e1 : argsOf rs S1 with
  | none => rw [e1] at h1; cases h1
  | some aS =>
    obtain ⟨as, S2⟩ := aS
    rw [e1] at h1
    dsimp only at h1
    obtain ⟨Φ2, F2, sp2, st2, r2, fz2⟩ := args_ok st1 rv nd e1
    have rall : RSs K Φ2 H1 A1 (vs ++ dvs) (as ++ dfl) [] := r2.app (hd Φ2 H1 A1)
    cases e2 : f (as ++ dfl) S2.μ with
    | none => rw [e2] at h1; cases h1
    | some res =>
      rw [e2] at h1
      have s02 : Step F G H Φ A F2 G1 H1 Φ2 A1 := sp.trans0 sp2
      have st0 : Stands K ⟨[], S2.μ⟩ [] H1 Φ2 A1 [] G1 := ⟨st2.le, .nil, st2.rc, (List.nodup_append.mp st2.nd).2.1⟩
      refine ⟨by rw [rall.length]; exact hl _ _ _ e2, Φ2, A1, G1, S2.μ, as ++ dfl, res, st0, rall, e2, ?_⟩
      have both : ∀ {H' Φ' : Hp} {A' T' G' : List Addr} {μ' : List SV}, Step [] G1 H1 Φ2 A1 T' G' H' Φ' A' → Stands K ⟨[], μ'⟩ [] H' Φ' A' [] G' → (T' ++ G').Nodup →
          Step F2 G1 H1 Φ2 A1 (T' ++ F2) G' H' Φ' A' ∧ Stands K { S2 with μ := μ' } σ H' Φ' A' F2 G' ∧ (T' ++ (F2 ++ G')).Nodup := fun {H' Φ' A' T' G' μ'} sp3 st3 nd3 => by
        have nd0 : (F2 ++ ([] ++ G1)).Nodup := st2.nd
        obtain ⟨k1, k2⟩ := sp3.same (T := F2) (fun b hb => st2.ro.there b hb) nd0
        have tr : ∀ b ∈ F2, H1 b ≠ none := fun b hb => (st2.ro.there b hb).1.ne
        have ng : ∀ b ∈ F2, b ∉ G1 := fun b hb hg => (List.nodup_append.mp st2.nd).2.2 b hb b hg rfl
        have ap := sp3.apart (T := F2) tr nd0 nd3
        refine ⟨⟨sp3.keep, sp3.le, fun b o e => (sp3.grow b o e).imp_right fun h => h.elim (fun z => by simp at z) .inr, fun b hb => ?_, sp3.ownG, sp3.live, sp3.cells⟩,
          ⟨st3.le, st2.ro.frame sp3.le sp3.cells k1 k2, st3.rc, ?_⟩, ?_⟩
        · rcases List.mem_append.mp hb with h | h
          · exact (sp3.ownF b h).imp_left fun z => by simp at z
          · exact .inl h
        · exact (ap.sublist ((List.Sublist.refl F2).append (List.sublist_append_right T' G')))
        · simp only [List.nodup_append, List.mem_append] at ap ⊢; grind
      cases res with
      | ok x μ' =>
        cases h1
        intro v H' Φ' A' T' G' sp3 st3 r3 nd3
        obtain ⟨b1, b2, b3⟩ := both sp3 st3 nd3
        exact q v H' Φ' A' T' F2 G' (s02.trans0 b1) b2 r3 b3 ((fz.trans fz2).trans frz_mu)
      | exc ex μ' =>
        cases h1
        intro c d H' Φ' A' G' sp3 st3 rx
        obtain ⟨b1, b2, b3⟩ := both (T' := []) sp3 st3 (List.nodup_append.mp st3.nd).2.1
        exact q c d H' Φ' A' F2 G' (s02.trans0 b1) b2 rx ((fz.trans fz2).trans frz_mu)
section
variable {X : Cx} {k : Nat} {f : Addr} {fd : FuncData} {ps : List Str} {W : WX} {x : Str} {p pos : Pos} {e : Expr} {es : List Expr} {t : TA} {fa : FA} {ds : List Value} {dvs : List V} {n : Nat} {g : FnS} {dfl : List SV}
theorem de_go (h : FG X.prog X.w X.K X.mg X.base k f fd ps (spF X.K n g)) (hl : ∀ as μ res, g as μ = some res → as.length = n) (room : Room k X.A) (gd : X.A.guards = some []) (hm : X.mg x = some (.ref f)) (hk : PySem.W.keepIn X.K (.ref f) = true) (bd : Binds X.K fd ps ds) (dd : Vals dvs ds) (hd : Dfl X.K dvs dfl) (tk : L2N.Takes X W)
    (ha : DA X W (e :: es) t fa) (hg : Gl X x := by rfl) (hdb : (x == ("__debug__" : Str)) = false := by decide) (he : starEach (e :: es) X.env = (false, eval e X.env) :: starEach es X.env := by rfl) (hpl : (backTo pos (starEach es X.env)).any (·.1) = false := by rfl) : DE X W (.Call (.Name x p) (e :: es) [] pos) (tGo W (spF X.K n g) dvs t) (fGo g dfl fa) :=
  ⟨pe_go h room gd hg hm hk bd dd tk ha.pe hdb he hpl, ev_go hd hl ha.ev⟩
end
section
variable {X : Cx} {W : WX} {e : Expr} {es : List Expr} {pos : Pos} {te : TE} {t : TA} {fe : FE} {fs : FA}
noncomputable def fNil : FA := fun S => some (.ok [] S)
noncomputable def fCons (fe : FE) (fs : FA) : FA := bindE fe fun r => bindE fs fun rs => retE (r :: rs)
theorem ev_nil {K : PySem.W.Frag} : EVA K W tNil fNil := fun S σ H Φ A F G st out ho Q q => by
  cases ho
  exact q [] H Φ A [] F G .refl st .nil (by simpa using st.nd) .refl
theorem ev_cons {K : PySem.W.Frag} (ha : EV K W te fe) (hb : EVA K W t fs) : EVA K W (tCons te t) (fCons fe fs) := fun S σ H Φ A F G st out ho Q q => by
  refine run1 (t := te) ha st ho q.x fun r S1 v H1 Φ1 A1 T F1 G1 sp st1 rv nd fz h1 => ?_
  refine runA (t := t) hb st1 h1 (fun e S' eo => (q.x e S' eo).at sp fz) fun rs S2 vs H2 Φ2 A2 U F2 G2 sp2 st2 rvs nd2 fz2 h2 => ?_
  cases h2
  have rv' := RV.step st1 rv nd sp2.drop fz2
  have nd' : ((T ++ U) ++ (F2 ++ G2)).Nodup := by
    have := sp2.apart (fun b hb => (rv.there b hb).1.ne) nd (by rw [List.append_assoc]; exact nd2)
    simpa [List.append_assoc] using this
  exact q (v :: vs) H2 Φ2 A2 (T ++ U) F2 G2 (by rw [List.append_assoc]; exact sp.trans sp2) st2 (.cons rv' rvs) nd' (fz.trans fz2)
theorem da_nil : DA X W [] tNil fNil := ⟨pa_nil, ev_nil⟩
theorem da_cons (ha : DE X W e te fe) (hb : DA X W es t fs) (hs : starEach (e :: es) X.env = (false, eval e X.env) :: starEach es X.env := by rfl) : DA X W (e :: es) (tCons te t) (fCons fe fs) := ⟨pa_cons ha.pe hb.pe hs, ev_cons ha.ev hb.ev⟩
theorem k1000 {n : Nat} (h : n ≤ 1000) : n ≤ sizeLine := Nat.le_trans h (by rw [sizeLine_eq]; decide)
noncomputable def fTup (fs : FA) : FE := bindE fs fun rs S => if rs.length ≤ 1000 then (escs rs S).map fun z => .ok (.d (.tup z.1)) z.2 else none
theorem ev_tup {K : PySem.W.Frag} (h : EVA K W t fs) : EV K W (tTup t) (fTup fs) := fun S σ H Φ A F G st out ho Q q => by
  refine runA (t := t) h st ho q.x fun rs S1 vs H1 Φ1 A1 T F1 G1 sp st1 rv nd fz h1 => ?_
  by_cases hl : rs.length ≤ 1000
  · rw [if_pos hl] at h1
    cases e1 : escs rs S1 with
    | none => rw [e1] at h1; cases h1
    | some z =>
      obtain ⟨ds, S2⟩ := z
      rw [e1] at h1; cases h1
      obtain ⟨Φ2, F2, sp2, st2, rp, fz2⟩ := escs_ok st1 rv nd e1
      refine ⟨by rw [rv.length]; exact k1000 hl, fun p hp => ?_⟩
      obtain ⟨n1, n2, n3⟩ := new_frz (o := .tup vs) st2 hp
      refine q (.ref p) _ _ _ [] F2 G1 ((sp.trans0 sp2).trans0 n1) n2 (RS.dat (.tup upd_same (rp.mono n3))) (by simpa using n2.nd) (fz.trans fz2)
  · rw [if_neg hl] at h1; cases h1
theorem de_tup {x1} (h : DA X W es t fs) : DE X W (.Tuple es x1 pos) (tTup t) (fTup fs) := ⟨pe_tup h.pe, ev_tup h.ev⟩
noncomputable def fLst (fs : FA) : FE := bindE fs fun rs S => if rs.length ≤ 1000 then (kids rs S).map fun z => .ok (.val (.own z.1)) z.2 else none
theorem ev_lst {K : PySem.W.Frag} (h : EVA K W t fs) : EV K W (tLst t) (fLst fs) := fun S σ H Φ A F G st out ho Q q => by
  refine runA (t := t) h st ho q.x fun rs S1 vs H1 Φ1 A1 T F1 G1 sp st1 rv nd fz h1 => ?_
  by_cases hl : rs.length ≤ 1000
  · rw [if_pos hl] at h1
    cases e1 : kids rs S1 with
    | none => rw [e1] at h1; cases h1
    | some z =>
      obtain ⟨xs, S2⟩ := z
      rw [e1] at h1; cases h1
      obtain ⟨Φ2, F2, sp2, st2, rq, fz2⟩ := kids_ok st1 rv nd e1
      have nd2 : (T ++ (F2 ++ G1)).Nodup := sp2.apart (fun b hb => (rv.there b hb).1.ne) nd st2.nd
      refine ⟨by rw [rv.length]; exact k1000 hl, fun p hp => ?_⟩
      obtain ⟨n1, n2, n3, n4⟩ := new_list st2 rq nd2 hp
      have s2 : Step F G H Φ A (T ++ F2) G1 H1 Φ2 A1 := Step.trans (T1 := []) sp sp2
      exact q (.ref p) _ _ _ (p :: T) F2 G1 (s2.trans0 n1) n2 n3 n4 (fz.trans fz2)
  · rw [if_neg hl] at h1; cases h1
theorem de_lst (h : DA X W es t fs) : DE X W (.List es pos) (tLst t) (fLst fs) := ⟨pe_lst h.pe, ev_lst h.ev⟩
end
end L3
namespace L3
open PySem PySem.Spec PyProof.Rows L2
inductive SO where
  | nx (S : Sto) | rt (x : SV) (μ : List SV) | bk (S : Sto) | ct (S : Sto) | exc (e : Ex) (S : Sto)
noncomputable abbrev FS := Sto → Option SO
section
variable (K : PySem.W.Frag) (W : WX)
noncomputable def XS (F G : List Addr) (H Φ : Hp) (A : List Addr) (e : Ex) (S' : Sto) : Prop := ∀ c d σ' H' Φ' A' F' G', Run F G H Φ A F' G' H' Φ' A' → Stands K S' σ' H' Φ' A' F' G' → RX K Φ' H' e c d → W c d σ' H'
noncomputable def NxS (F G : List Addr) (H Φ : Hp) (A : List Addr) (S' : Sto) (P : Sl → Hp → Prop) : Prop := ∀ σ' H' Φ' A' F' G', Run F G H Φ A F' G' H' Φ' A' → Stands K S' σ' H' Φ' A' F' G' → P σ' H'
noncomputable def RtS (F G : List Addr) (H Φ : Hp) (A : List Addr) (x : SV) (μ : List SV) (Q : VK) : Prop := ∀ v H' Φ' A' T G', Run F G H Φ A T G' H' Φ' A' → Stands K ⟨[], μ⟩ [] H' Φ' A' [] G' → RS K Φ' H' A' v x T → (T ++ G').Nodup → Q v H'
noncomputable def PostS (F G : List Addr) (H Φ : Hp) (A : List Addr) (D : Ends) : SO → Prop
  | .nx S' => NxS K F G H Φ A S' D.nx
  | .bk S' => NxS K F G H Φ A S' D.bk
  | .ct S' => NxS K F G H Φ A S' D.ct
  | .rt x μ => RtS K F G H Φ A x μ D.rt
  | .exc e S' => XS K W F G H Φ A e S'
noncomputable def SEV (t : TS) (f : FS) : Prop := ∀ S σ H Φ A F G, Stands K S σ H Φ A F G → ∀ out, f S = some out → ∀ D, PostS K W F G H Φ A D out → t D σ H
end
structure DS (X : Cx) (W : WX) (s : Stmt) (t : TS) (f : FS) : Prop where
  ps : PS X s t
  ev : SEV X.K W t f
structure DB (X : Cx) (W : WX) (s : List Stmt) (t : TS) (f : FS) : Prop where
  ps : PSs X s t
  ev : SEV X.K W t f
section
variable {K : PySem.W.Frag} {W : WX} {S S' S1 : Sto} {σ : Sl} {H Φ H1 Φ1 : Hp} {A A1 F G F1 G1 T : List Addr} {v : V} {r : R}
theorem NxS.at {P : Sl → Hp → Prop} (q : NxS K F G H Φ A S' P) (rn : Run F G H Φ A F1 G1 H1 Φ1 A1) : NxS K F1 G1 H1 Φ1 A1 S' P := fun σ' H' Φ' A' F' G' r2 st => q σ' H' Φ' A' F' G' (rn.trans r2) st
theorem PostS.at {D : Ends} {out : SO} (q : PostS K W F G H Φ A D out) (rn : Run F G H Φ A F1 G1 H1 Φ1 A1) : PostS K W F1 G1 H1 Φ1 A1 D out := by
  cases out with
  | nx S' => exact NxS.at q rn
  | bk S' => exact NxS.at q rn
  | ct S' => exact NxS.at q rn
  | rt x μ => exact fun v H' Φ' A' T G' r2 st rs nd => q v H' Φ' A' T G' (rn.trans r2) st rs nd
  | exc e S' => exact fun c d σ' H' Φ' A' F' G' r2 st rx => q c d σ' H' Φ' A' F' G' (rn.trans r2) st rx
theorem XS.xp {e : Ex} (q : XS K W F G H Φ A e S') : XP K W S σ H Φ A F G e S' := fun c d H' Φ' A' F' G' sp st rx _ => q c d σ H' Φ' A' F' G' sp.run st rx
noncomputable def bindS {α : Type} (f : Sto → Option (Out α)) (g : α → FS) : FS := fun S => match f S with
  | some (.ok a S1) => g a S1
  | some (.exc e S1) => some (.exc e S1)
  | none => none
theorem runS {t : TE} {f : FE} {k : R → FS} {out : SO} {D : Ends} {P : VK} (hf : EV K W t f) (st : Stands K S σ H Φ A F G) (h : bindS f k S = some out) (q : PostS K W F G H Φ A D out)
    (hk : ∀ r S1 v H1 Φ1 A1 T F1 G1, Step F G H Φ A (T ++ F1) G1 H1 Φ1 A1 → Stands K S1 σ H1 Φ1 A1 F1 G1 → RV K Φ1 H1 A1 S1 σ v r T → (T ++ (F1 ++ G1)).Nodup → k r S1 = some out → P v H1) : t σ H P := by
  unfold bindS at h
  cases e : f S with
  | none => rw [e] at h; cases h
  | some o =>
    rw [e] at h
    cases o with
    | ok r S1 => exact hf S σ H Φ A F G st _ e P fun v H' Φ' A' T F' G' sp st' rv nd fz => hk r S1 v H' Φ' A' T F' G' sp st' rv nd h
    | exc x S1 => cases h; exact hf S σ H Φ A F G st _ e P (XS.xp q)
theorem runST {t : TT} {f : FT} {k : Bool → FS} {out : SO} {D : Ends} {P : Bool → Hp → Prop} (hf : EVT K W t f) (st : Stands K S σ H Φ A F G) (h : bindS f k S = some out) (q : PostS K W F G H Φ A D out)
    (hk : ∀ b S1 H1 Φ1 A1 F1 G1, Step F G H Φ A F1 G1 H1 Φ1 A1 → Stands K S1 σ H1 Φ1 A1 F1 G1 → k b S1 = some out → P b H1) : t σ H P := by
  unfold bindS at h
  cases e : f S with
  | none => rw [e] at h; cases h
  | some o =>
    rw [e] at h
    cases o with
    | ok b S1 => exact hf S σ H Φ A F G st _ e P fun H' Φ' A' F' G' sp st' fz => hk b S1 H' Φ' A' F' G' sp st' h
    | exc x S1 => cases h; exact hf S σ H Φ A F G st _ e P (XS.xp (σ := σ) q)
theorem runSA {t : TA} {f : FA} {k : List R → FS} {out : SO} {D : Ends} {P : List V → Hp → Prop} (hf : EVA K W t f) (st : Stands K S σ H Φ A F G) (h : bindS f k S = some out) (q : PostS K W F G H Φ A D out)
    (hk : ∀ rs S1 vs H1 Φ1 A1 T F1 G1, Step F G H Φ A (T ++ F1) G1 H1 Φ1 A1 → Stands K S1 σ H1 Φ1 A1 F1 G1 → RVs K Φ1 H1 A1 S1 σ vs rs T → (T ++ (F1 ++ G1)).Nodup → k rs S1 = some out → P vs H1) : t σ H P := by
  unfold bindS at h
  cases e : f S with
  | none => rw [e] at h; cases h
  | some o =>
    rw [e] at h
    cases o with
    | ok r S1 => exact hf S σ H Φ A F G st _ e P fun v H' Φ' A' T F' G' sp st' rv nd fz => hk r S1 v H' Φ' A' T F' G' sp st' rv nd h
    | exc x S1 => cases h; exact hf S σ H Φ A F G st _ e P (XS.xp q)
theorem Stands.set {i : Nat} {x : SV} (st : Stands K S σ H Φ A F G) (h : RS K Φ H A v x T) (nd : (T ++ (F ++ G)).Nodup) (hi : i < S.ρ.length) :
    ∃ F', Stands K { S with ρ := S.ρ.set i (some x) } (σ.set i (some v)) H Φ A F' G ∧ ∀ b ∈ F', b ∈ T ∨ b ∈ F := by
  obtain ⟨F1, F2, ⟨Fi, e1⟩, ro⟩ := st.ro.put hi h
  refine ⟨F1 ++ (T ++ F2), ⟨st.le, ro, st.rc, ?_⟩, fun b hb => ?_⟩
  · subst e1
    simp only [List.nodup_append, List.mem_append] at nd ⊢; grind
  · subst e1
    simp only [List.mem_append] at hb ⊢; grind
theorem ret_ok {x : SV} (st : Stands K S σ H Φ A F G) (h : RV K Φ H A S σ v r T) (nd : (T ++ (F ++ G)).Nodup) (e : r.sv S = some x) :
    ∃ U, RS K Φ H A v x U ∧ (U ++ G).Nodup ∧ ∀ b ∈ U, b ∈ T ∨ b ∈ F := by
  cases r with
  | val y =>
    cases e
    exact ⟨T, h, nd.sublist ((List.Sublist.refl T).append (List.sublist_append_right F G)), fun b hb => .inl hb⟩
  | bor i p =>
    obtain ⟨rfl, v0, e0, hp, hat⟩ := h
    have e : S.sub i p = some x := e
    obtain ⟨x0, e1, e2⟩ := sub_some e
    obtain ⟨v', F1, Fi, F2, e3, e4, q, _⟩ := st.ro.at e1
    rw [e0] at e3; cases e3
    obtain ⟨u, E1, Ex, E2, a1, a2, a3, _⟩ := RS.sub q e2
    have : u = v := a1.inj (hat x e)
    subst this
    subst e4 a2
    refine ⟨Ex, a3, ?_, fun b hb => .inr (by simp only [List.mem_append]; grind)⟩
    have := st.nd
    simp only [List.nodup_append, List.mem_append] at this ⊢; grind
end
section
variable {X : Cx} {W : WX} {e tg : Expr} {s : Stmt} {ss : List Stmt} {pos : Pos} {te : TE} {t u : TS} {ta : TA} {fe : FE} {f g : FS} {fa : FA}
noncomputable def fNext : FS := fun S => some (.nx S)
noncomputable def fSeq (f g : FS) : FS := fun S => match f S with
  | some (.nx S1) => g S1
  | o => o
theorem db_nil : DB X W [] tNext fNext := ⟨pss_nil, fun S σ H Φ A F G st out ho D q => by cases ho; exact q σ H Φ A F G .refl st⟩
theorem ev_seq {K : PySem.W.Frag} (hf : SEV K W t f) (hg : SEV K W u g) : SEV K W (tSeq t u) (fSeq f g) := fun S σ H Φ A F G st out ho D q => by
  unfold fSeq at ho
  cases e : f S with
  | none => rw [e] at ho; cases ho
  | some o =>
    rw [e] at ho
    refine hf S σ H Φ A F G st o e { D with nx := u D } ?_
    cases o with
    | nx S1 => exact fun σ' H' Φ' A' F' G' rn st' => hg S1 σ' H' Φ' A' F' G' st' out ho D (q.at rn)
    | bk S1 => cases ho; exact q
    | ct S1 => cases ho; exact q
    | rt x μ => cases ho; exact q
    | exc x S1 => cases ho; exact q
theorem db_cons (hf : DS X W s t f) (hg : DB X W ss u g) : DB X W (s :: ss) (tSeq t u) (fSeq f g) := ⟨pss_cons hf.ps hg.ps, ev_seq hf.ev hg.ev⟩
theorem db_one (hf : DS X W s t f) : DB X W [s] t f := ⟨pss_one hf.ps, hf.ev⟩
noncomputable def fBrk : FS := fun S => some (.bk S)
noncomputable def fCont : FS := fun S => some (.ct S)
noncomputable def fExpr (fe : FE) : FS := bindS fe fun _ S => some (.nx S)
noncomputable def fRet (fe : FE) : FS := bindS fe fun r S => (r.sv S).map fun x => .rt x S.μ
theorem ds_ret (h : DE X W e te fe) : DS X W (.Return (some e) pos) (tRet te) (fRet fe) := ⟨ps_ret h.pe, fun S σ H Φ A F G st out ho D q => by
  refine runS (t := te) h.ev st ho q fun r S1 v H1 Φ1 A1 T F1 G1 sp st1 rv nd h1 => ?_
  cases e1 : r.sv S1 with
  | none => rw [e1] at h1; cases h1
  | some x =>
    rw [e1] at h1; cases h1
    obtain ⟨U, rs, nd2, hU⟩ := ret_ok st1 rv nd e1
    exact q v H1 Φ1 A1 U G1 (sp.run.sub fun b hb => hb.imp_left fun h => by simpa using hU b h) ⟨st1.le, .nil, st1.rc, (List.nodup_append.mp st1.nd).2.1⟩ rs nd2⟩
noncomputable def fRetN : FS := fun S => some (.rt (.dat .non) S.μ)
noncomputable def fIf (c : FT) (f g : FS) : FS := bindS c fun b => if b = true then f else g
theorem ds_if {c : Expr} {a b : List Stmt} {tc : TT} {fc : FT} (hc : DT X W c tc fc) (ha : DB X W a t f) (hb : DB X W b u g) : DS X W (.If c a b pos) (tIfS tc t u) (fIf fc f g) := ⟨ps_if hc.pe ha.ps hb.ps, fun S σ H Φ A F G st out ho D q => by
  refine runST (t := tc) hc.ev st ho q fun b S1 H1 Φ1 A1 F1 G1 sp st1 h1 => ?_
  cases b with
  | true => rw [if_pos rfl] at h1 ⊢; exact ha.ev S1 σ H1 Φ1 A1 F1 G1 st1 out h1 D (q.at sp.run)
  | false => rw [if_neg (by decide)] at h1 ⊢; exact hb.ev S1 σ H1 Φ1 A1 F1 G1 st1 out h1 D (q.at sp.run)⟩
noncomputable def Sto.put (S : Sto) (i : Nat) (x : SV) : Option Sto := if i < S.ρ.length then some { S with ρ := S.ρ.set i (some x) } else none
noncomputable def fSet (i : Nat) (fe : FE) : FS := bindS fe fun r S => match r.kid S with
  | some (x, S1) => (S1.put i x).map SO.nx
  | none => none
theorem ev_set {K : PySem.W.Frag} {i : Nat} (h : EV K W te fe) : SEV K W (tAsg te (gName i)) (fSet i fe) := fun S σ H Φ A F G st out ho D q => by
  refine runS (t := te) h st ho q fun r S1 v H1 Φ1 A1 T F1 G1 sp st1 rv nd h1 => ?_
  cases e1 : r.kid S1 with
  | none => rw [e1] at h1; cases h1
  | some z =>
    obtain ⟨x, S2⟩ := z
    rw [e1] at h1
    obtain ⟨Φ2, F2, sp2, st2, rs2, fz2⟩ := kid_ok st1 rv nd e1
    have nd2 : (T ++ (F2 ++ G1)).Nodup := sp2.apart (fun b hb => (rv.there b hb).1.ne) nd st2.nd
    have h1 : (S2.put i x).map SO.nx = some out := h1
    unfold Sto.put at h1
    by_cases hi : i < S2.ρ.length
    · rw [if_pos hi] at h1; cases h1
      obtain ⟨F3, st3, hF⟩ := st2.set rs2 nd2 hi
      have s12 : Step F G H Φ A (T ++ F2) G1 H1 Φ2 A1 := Step.trans (T1 := []) sp sp2
      exact q (σ.set i (some v)) H1 Φ2 A1 F3 G1 (s12.run.sub fun b hb => hb.imp_left fun h => by simpa using hF b h) st3
    · rw [if_neg hi] at h1; cases h1
theorem ds_set {x : Str} {pos' : Pos} {i : Nat} (hN : X.N.Nodup) (h : DE X W e te fe) (hi : X.N[i]? = some x := by rfl) (hx : Loc X.env.scope x := by first | exact Or.inl rfl | exact Or.inr rfl) (hs : swapsWith e (some (.Name x pos')) pos.line X.env = pure false := by rfl)
    (hf : X.fn x = true ∨ X.env.scope.names.lookup x = some .local := by first | exact .inl rfl | exact .inr rfl) : DS X W (.Assign [.Name x pos'] e pos) (tAsg te (gName i)) (fSet i fe) := ⟨ps_set hN hi hx h.pe hs hf, ev_set h.ev⟩
inductive Tg where
  | nm (i : Nat) | tp (ts : List Tg)
mutual
noncomputable def tgS : Tg → D → List (Option SV) → Option (List (Option SV))
  | .nm i, d, ρ => if i < ρ.length then some (ρ.set i (some (.dat d))) else none
  | .tp ts, .tup ds, ρ => tgsS ts ds ρ
  | .tp ts, .lst ds, ρ => tgsS ts ds ρ
  | .tp ts, .kt ds, ρ => tgsS ts ds ρ
  | .tp _, _, _ => none
noncomputable def tgsS : List Tg → List D → List (Option SV) → Option (List (Option SV))
  | [], [], ρ => some ρ
  | t :: ts, d :: ds, ρ => match tgS t d ρ with
    | some ρ1 => tgsS ts ds ρ1
    | none => none
  | _, _, _ => none
end
mutual
noncomputable def Tg.sl : Tg → List Nat
  | .nm i => [i]
  | .tp ts => Tg.sls ts
noncomputable def Tg.sls : List Tg → List Nat
  | [] => []
  | t :: ts => t.sl ++ Tg.sls ts
end
noncomputable def But (is : List Nat) (σ σ' : Sl) : Prop := σ'.length = σ.length ∧ ∀ j : Nat, j ∉ is → σ'[j]? = σ[j]?
noncomputable def GEV (K : PySem.W.Frag) (g : TG) (t : Tg) : Prop := ∀ S σ H Φ A F G v d ρ', Stands K S σ H Φ A F G → Rp K Φ v d → tgS t d S.ρ = some ρ' → ∀ Q : Sl → Hp → Prop,
  (∀ σ' F', Stands K { S with ρ := ρ' } σ' H Φ A F' G → (∀ b ∈ F', b ∈ F) → But t.sl σ σ' → Q σ' H) → g v σ H Q
noncomputable def GEVs (K : PySem.W.Frag) (g : TGs) (ts : List Tg) : Prop := ∀ S σ H Φ A F G vs ds ρ', Stands K S σ H Φ A F G → Rps K Φ vs ds → tgsS ts ds S.ρ = some ρ' → ∀ Q : Sl → Hp → Prop,
  (∀ σ' F', Stands K { S with ρ := ρ' } σ' H Φ A F' G → (∀ b ∈ F', b ∈ F) → But (Tg.sls ts) σ σ' → Q σ' H) → g vs σ H Q
structure DG (X : Cx) (e : Expr) (g : TG) (t : Tg) : Prop where
  pg : PG X e g
  ev : GEV X.K g t
structure DGs (X : Cx) (es : List Expr) (g : TGs) (ts : List Tg) : Prop where
  pg : PGs X es g
  ev : GEVs X.K g ts
theorem dg_name {x : Str} {i : Nat} (hN : X.N.Nodup) (hi : X.N[i]? = some x := by rfl) (hx : Loc X.env.scope x := by first | exact Or.inl rfl | exact Or.inr rfl) (hf : X.fn x = true ∨ X.env.scope.names.lookup x = some .local := by first | exact .inl rfl | exact .inr rfl) : DG X (.Name x pos) (gName i) (.nm i) :=
  ⟨pg_name hN hi hx hf, fun S σ H Φ A F G v d ρ' st rp e Q q => by
    have e : (if i < S.ρ.length then some (S.ρ.set i (some (.dat d))) else none) = some ρ' := by rw [← e]; rfl
    by_cases hl : i < S.ρ.length
    · rw [if_pos hl] at e; cases e
      obtain ⟨F', st', hF⟩ := st.set (T := []) (.dat rp) (by simpa using st.nd) hl
      exact q _ F' st' (fun b hb => by simpa using hF b hb) ⟨List.length_set, fun j hj => List.getElem?_set_ne (fun e => hj (by rw [Tg.sl, e]; simp))⟩
    · rw [if_neg hl] at e; cases e⟩
noncomputable def fAsg (tg : Tg) (fe : FE) : FS := bindS fe fun r S => match r.esc S with
  | some (d, S1) => (tgS tg d S1.ρ).map fun ρ => .nx { S1 with ρ := ρ }
  | none => none
noncomputable def putAll : List Nat → List SV → Sto → Option Sto
  | [], [], S => some S
  | i :: is, x :: xs, S => match S.put i x with
    | some S1 => putAll is xs S1
    | none => none
  | _, _, _ => none
noncomputable def fPar (is : List Nat) (fa : FA) : FS := bindS fa fun rs S => match kids rs S with
  | some (xs, S1) => (putAll is xs S1).map SO.nx
  | none => none
noncomputable def setAll : List Nat → List V → Sl → Sl
  | i :: is, v :: vs, σ => setAll is vs (σ.set i (some v))
  | _, _, σ => σ
theorem putAll_ok {K : PySem.W.Frag} {H Φ : Hp} {A G : List Addr} : ∀ {is : List Nat} {xs : List SV} {vs : List V} {S S' : Sto} {σ : Sl} {F T : List Addr}, Stands K S σ H Φ A F G → RSs K Φ H A vs xs T → (T ++ (F ++ G)).Nodup → putAll is xs S = some S' →
    ∃ F', Stands K S' (setAll is vs σ) H Φ A F' G ∧ ∀ b ∈ F', b ∈ T ∨ b ∈ F
  | [], _, _, S, S', σ, F, _, st, .nil, nd, e => by cases e; exact ⟨F, st, fun b hb => .inr hb⟩
  | i :: is, _, _, S, S', σ, F, _, st, .cons (v := v) (vs := vs) (x := x) (xs := xs) (F := F0) (G := G0) q r, nd, e => by
    have e : (match S.put i x with | some S1 => putAll is xs S1 | none => none) = some S' := by rw [← e]; rfl
    unfold Sto.put at e
    by_cases hi : i < S.ρ.length
    · rw [if_pos hi] at e
      obtain ⟨F1, st1, h1⟩ := st.set q (nd_left nd) hi
      have nd1 : (G0 ++ (F1 ++ G)).Nodup := by
        have n1 := st1.nd
        simp only [List.nodup_append, List.mem_append] at nd n1 ⊢; grind
      obtain ⟨F2, st2, h2⟩ := putAll_ok st1 r nd1 e
      refine ⟨F2, st2, fun b hb => ?_⟩
      rcases h2 b hb with h | h
      · exact .inl (List.mem_append_right _ h)
      · exact (h1 b h).imp_left (List.mem_append_left _)
    · rw [if_neg hi] at e; cases e
  | [], _, _, S, S', σ, F, _, st, .cons q r, nd, e => by cases e
  | i :: is, _, _, S, S', σ, F, _, st, .nil, nd, e => by cases e
theorem ev_par {K : PySem.W.Frag} {is : List Nat} {t : TS} (h : EVA K W ta fa) (ht : ∀ D σ H, (ta σ H fun vs H1 => vs.length = is.length ∧ D.nx (setAll is vs σ) H1) → t D σ H) : SEV K W t (fPar is fa) := fun S σ H Φ A F G st out ho D q => by
  apply ht
  refine runSA (t := ta) h st ho q fun rs S1 vs H1 Φ1 A1 T F1 G1 sp st1 rv nd h1 => ?_
  cases e1 : kids rs S1 with
  | none => rw [e1] at h1; cases h1
  | some z =>
    obtain ⟨xs, S2⟩ := z
    rw [e1] at h1
    obtain ⟨Φ2, F2, sp2, st2, rs2, fz2⟩ := kids_ok st1 rv nd e1
    have nd2 : (T ++ (F2 ++ G1)).Nodup := sp2.apart (fun b hb => (rv.there b hb).1.ne) nd st2.nd
    have h1 : (putAll is xs S2).map SO.nx = some out := h1
    cases e2 : putAll is xs S2 with
    | none => rw [e2] at h1; cases h1
    | some S3 =>
      rw [e2] at h1; cases h1
      obtain ⟨F3, st3, h3⟩ := putAll_ok st2 rs2 nd2 e2
      have hl : ∀ {is : List Nat} {xs : List SV} {S S' : Sto}, putAll is xs S = some S' → xs.length = is.length := by
        intro is
        induction is with
        | nil => intro xs S S' e; cases xs with
          | nil => rfl
          | cons => cases e
        | cons i is ih =>
          intro xs S S' e
          cases xs with
          | nil => cases e
          | cons x xs =>
            have e : (match S.put i x with | some S1 => putAll is xs S1 | none => none) = some S' := by rw [← e]; rfl
            cases e1 : S.put i x with
            | none => rw [e1] at e; cases e
            | some ρ1 => rw [e1] at e; exact congrArg (· + 1) (ih e)
      have s12 : Step F G H Φ A (T ++ F2) G1 H1 Φ2 A1 := Step.trans (T1 := []) sp sp2
      exact ⟨by rw [rs2.length]; exact hl e2, q _ H1 Φ2 A1 F3 G1 (s12.run.sub fun b hb => hb.imp_left fun h => by simpa using h3 b h) st3⟩
theorem ds_par2 {i j : Nat} {x y : Str} {a b : Expr} {px py pt : Pos} {kt k2 pt2} (hc : X.calm = true) (hN : X.N.Nodup) (ha : DA X W [a, b] ta fa) (hi : X.N[i]? = some x := by rfl) (hj : X.N[j]? = some y := by rfl) (hij : i ≠ j := by decide)
    (hx : X.env.scope.names.lookup x = some .local := by rfl) (hy : X.env.scope.names.lookup y = some .local := by rfl)
    (hw : swappedStores [.Tuple [.Name x px, .Name y py] kt pt] (.Tuple [a, b] k2 pt2) X.env = pure (some [x, y]) := by rfl)
    (hs : swapsWithSole [.Tuple [.Name x px, .Name y py] kt pt] (.Tuple [a, b] k2 pt2) pos.line X.env = pure false := by rfl) :
    DS X W (.Assign [.Tuple [.Name x px, .Name y py] kt pt] (.Tuple [a, b] k2 pt2) pos) (tPar i j ta) (fPar [i, j] fa) := ⟨ps_par hc hN hi hj hij hx hy ha.pe hw hs, ev_par ha.ev fun D σ H h => by
  have e : (fun vs H1 => List.length vs = [i, j].length ∧ D.nx (setAll [i, j] vs σ) H1) = fun vs H1 => ∃ v w, vs = [v, w] ∧ D.nx ((σ.set i (some v)).set j (some w)) H1 := by
    funext vs H1
    apply propext
    constructor
    · rintro ⟨hl, z⟩
      match vs, hl, z with
      | [v, w], _, z => exact ⟨v, w, rfl, z⟩
    · rintro ⟨v, w, rfl, z⟩
      exact ⟨rfl, z⟩
  rw [e] at h
  exact h⟩
inductive DNs (X : Cx) : List Expr → TGs → List Nat → Prop where
  | nil : DNs X [] gNil []
  | cons {x : Str} {i : Nat} {pos : Pos} {es : List Expr} {gs : TGs} {is : List Nat} (h : PG X (.Name x pos) (gName i)) (hs : (assignEach (.Name x pos :: es) X.env).map (·.2) = assign (.Name x pos) X.env :: (assignEach es X.env).map (·.2)) (t : DNs X es gs is) : DNs X (.Name x pos :: es) (gCons (gName i) gs) (i :: is)
noncomputable def Walk (K : PySem.W.Frag) (Φ0 : Hp) (J : It) (ds : List D) : Prop := ∀ S σ H Φ A F G, Stands K S σ H Φ A F G → Same Φ0 Φ → ∀ i,
  (∀ d, ds[i]? = some d → J.go i H ∧ ∀ x H', J.yld i H x H' → ∃ Φ', Step F G H Φ A F G H' Φ' A ∧ Stands K S σ H' Φ' A F G ∧ Rp K Φ' x d) ∧ (i = ds.length → J.stop i H)
noncomputable abbrev FI := Sto → Option (Out (List D))
noncomputable def PostI (K : PySem.W.Frag) (W : WX) (S : Sto) (σ : Sl) (H Φ : Hp) (A F G : List Addr) (R : It → Hp → Prop) : Out (List D) → Prop
  | .ok ds S' => ∀ J H' Φ' A' F' G', Step F G H Φ A F' G' H' Φ' A' → Stands K S' σ H' Φ' A' F' G' → Frz S S' → Walk K Φ' J ds → R J H'
  | .exc e S' => XP K W S σ H Φ A F G e S'
noncomputable def IEV (K : PySem.W.Frag) (W : WX) (w : TI) (f : FI) : Prop := ∀ S σ H Φ A F G, Stands K S σ H Φ A F G → ∀ out, f S = some out → ∀ R, PostI K W S σ H Φ A F G R out → w σ H R
structure DI (X : Cx) (W : WX) (tg e : Expr) (w : TI) (f : FI) : Prop where
  pi : PI X tg e w
  ev : IEV X.K W w f
noncomputable def forF (tg : Tg) (f : FS) : List D → FS
  | [], S => some (.nx S)
  | d :: r, S => match tgS tg d S.ρ with
    | some ρ => match f { S with ρ := ρ } with
      | some (.nx S1) => forF tg f r S1
      | some (.ct S1) => forF tg f r S1
      | some (.bk S1) => some (.nx S1)
      | o => o
    | none => none
noncomputable def fFor (tg : Tg) (fi : FI) (f : FS) : FS := bindS fi fun ds => forF tg f ds
theorem ds_for {iter : Expr} {body : List Stmt} {wi : TI} {g : TG} {tt : Tg} {fi : FI} (hc : X.calm = true) (hi : DI X W tg iter wi fi) (hg : DG X tg g tt) (hb : DB X W body t f) (hp : PassesOwn (model X.prog X.w) X.A X.env X.xe := by first | exact PassesOwn.never | exact passes_of rfl)
    (hs : ∀ x, foldedSetIterable iter X.env x = pure x := by intro _; rfl) : DS X W (.For tg iter body [] pos) (tFor wi g t) (fFor tt fi f) := ⟨ps_for hp hc hi.pi hg.pg hb.ps hs, fun S σ H Φ A F G st out ho D q => by
  have ho : bindS fi (fun ds => forF tt f ds) S = some out := ho
  unfold bindS at ho
  cases e : fi S with
  | none => rw [e] at ho; cases ho
  | some o =>
    rw [e] at ho
    cases o with
    | exc x S1 => cases ho; exact hi.ev S σ H Φ A F G st _ e _ (XS.xp (σ := σ) q)
    | ok ds S1 =>
      refine hi.ev S σ H Φ A F G st _ e _ fun J H1 Φ1 A1 F1 G1 sp st1 fz wk => ?_
      have ho : forF tt f ds S1 = some out := ho
      refine ⟨fun i m σ2 H2 => i + m = ds.length ∧ ∃ S2 Φ2 A2 F2 G2, Run F G H Φ A F2 G2 H2 Φ2 A2 ∧ Stands X.K S2 σ2 H2 Φ2 A2 F2 G2 ∧ Same Φ1 Φ2 ∧ forF tt f (ds.drop i) S2 = some out,
        ⟨ds.length, by omega, S1, Φ1, A1, F1, G1, sp.run, st1, Same.refl _, by simpa using ho⟩, ?_⟩
      rintro i m σ2 H2 ⟨em, S2, Φ2, A2, F2, G2, rn, st2, le2, h2⟩
      obtain ⟨w1, w2⟩ := wk S2 σ2 H2 Φ2 A2 F2 G2 st2 le2 i
      by_cases hi : i < ds.length
      · have ed : ds[i]? = some ds[i] := List.getElem?_eq_getElem hi
        obtain ⟨jgo, jy⟩ := w1 _ ed
        have ec : ds.drop i = ds[i] :: ds.drop (i + 1) := List.drop_eq_getElem_cons hi
        rw [ec] at h2
        refine .inr ⟨jgo, fun σ' H' => ∃ S3 Φ3 A3 F3 G3, Run F G H Φ A F3 G3 H' Φ3 A3 ∧ Stands X.K S3 σ' H' Φ3 A3 F3 G3 ∧ Same Φ1 Φ3 ∧ forF tt f (ds.drop (i + 1)) S3 = some out,
          fun σ' H' ⟨S3, Φ3, A3, F3, G3, r3, s3, l3, h3⟩ => ⟨m - 1, by omega, by omega, S3, Φ3, A3, F3, G3, r3, s3, l3, h3⟩, fun x H' hy => ?_⟩
        obtain ⟨Φ3, sp3, st3, rp3⟩ := jy x H' hy
        have h2 : (match tgS tt ds[i] S2.ρ with
          | some ρ => match f { S2 with ρ := ρ } with
            | some (.nx S1) => forF tt f (ds.drop (i + 1)) S1
            | some (.ct S1) => forF tt f (ds.drop (i + 1)) S1
            | some (.bk S1) => some (.nx S1)
            | o => o
          | none => none) = some out := h2
        cases e3 : tgS tt ds[i] S2.ρ with
        | none => rw [e3] at h2; cases h2
        | some ρ =>
          rw [e3] at h2
          refine hg.ev S2 σ2 H' Φ3 A2 F2 G2 x ds[i] ρ st3 rp3 e3 _ fun σ4 F4 st4 hF4 _ => ?_
          have rn4 : Run F G H Φ A F4 G2 H' Φ3 A2 := (rn.trans sp3.run).sub fun b hb => hb.imp_left (hF4 b)
          have le4 : Same Φ1 Φ3 := le2.trans sp3.le
          cases e4 : f { S2 with ρ := ρ } with
          | none => simp only [e4] at h2; cases h2
          | some o4 =>
            simp only [e4] at h2
            refine hb.ev _ σ4 H' Φ3 A2 F4 G2 st4 o4 e4 _ ?_
            cases o4 with
            | nx S5 => exact fun σ5 H5 Φ5 A5 F5 G5 r5 s5 => ⟨S5, Φ5, A5, F5, G5, rn4.trans r5, s5, le4.trans r5.le, h2⟩
            | ct S5 => exact fun σ5 H5 Φ5 A5 F5 G5 r5 s5 => ⟨S5, Φ5, A5, F5, G5, rn4.trans r5, s5, le4.trans r5.le, h2⟩
            | bk S5 => cases h2; exact fun σ5 H5 Φ5 A5 F5 G5 r5 s5 => q σ5 H5 Φ5 A5 F5 G5 (rn4.trans r5) s5
            | rt x μ => cases h2; exact fun v H5 Φ5 A5 T5 G5 r5 s5 rs5 nd5 => q v H5 Φ5 A5 T5 G5 (rn4.trans r5) s5 rs5 nd5
            | exc x S5 => cases h2; exact fun c d σ5 H5 Φ5 A5 F5 G5 r5 s5 rx => q c d σ5 H5 Φ5 A5 F5 G5 (rn4.trans r5) s5 rx
      · have ei : i = ds.length := by omega
        rw [List.drop_eq_nil_of_le (by omega)] at h2
        cases h2
        exact .inl ⟨w2 ei, q σ2 H2 Φ2 A2 F2 G2 rn st2⟩⟩
end
noncomputable def runF (n m : Nat) (f : FS) : FnS := fun as μ => if as.length = n then match f ⟨as.map some ++ List.replicate (m - n) none, μ⟩ with
    | some (.nx S) => some (.ok (.dat .non) S.μ)
    | some (.rt x μ) => some (.ok x μ)
    | some (.exc e S) => some (.exc e S.μ)
    | _ => none
  else none
theorem runF_len {n m : Nat} {f : FS} : ∀ as μ res, runF n m f as μ = some res → as.length = n := fun as μ res h => by
  unfold runF at h
  split at h
  · assumption
  · cases h
theorem ro_none {K : PySem.W.Frag} {Φ H : Hp} {A : List Addr} : ∀ k : Nat, RO K Φ H A (List.replicate k none) (List.replicate k none) []
  | 0 => .nil
  | k + 1 => .non (ro_none k)
theorem ro_of {K : PySem.W.Frag} {Φ H : Hp} {A : List Addr} {σ : Sl} {ρ : List (Option SV)} (r : RO K Φ H A σ ρ []) : ∀ {vs : List V} {xs : List SV} {F : List Addr}, RSs K Φ H A vs xs F → RO K Φ H A (vs.map some ++ σ) (xs.map some ++ ρ) F
  | _, _, _, .nil => r
  | _, _, _, .cons q s => .som q (ro_of r s)
section
variable {P : Program} {w : World} {K : PySem.W.Frag} {mg : Str → Option Value} {base : Heap}
theorem fg_body {x qual : Str} {st : Stmt} {f : Addr} {fd : FuncData} {dV : Value} {N ps : List Str} {k : Nat} {fb : FS} (n m : Nat) (T : FunV K x qual st f fd dV) (C : FnScope N ps (defScope st)) (hn : ps.length = n) (hm : N.length = m)
    (body : ∀ (cdv : Value) (A : Around) (outer : List Env) (s : Shared) (H : Hp) (E : XK), Room k (A.deeper (envOfC qual (defScope st) s.heap.objs.size f cdv)) → A.guards = some [] →
      ∃ t, DB (cxOf (L2N.CX P w) P w K mg base N qual (defScope st) f cdv A outer s H E) (fun c d _ H => E c d H) (defBody st) t fb) : FG P w K mg base (k + 1) f fd ps (spF K n (runF n m fb)) := by
  refine fg_of T C (fun vs H Q E h => h.1.trans hn.symm) fun cdv A outer s H vs Q E room gd want => ?_
  obtain ⟨hl, Φ, Ad, G, μ, as, res, st0, ra, hf, post⟩ := want
  obtain ⟨t, d⟩ := body cdv A outer s H E room gd
  refine ⟨t, d.ps, ?_⟩
  have las : as.length = n := by rw [← ra.length]; exact hl
  unfold runF at hf
  rw [if_pos las] at hf
  have eσ : L2.start N vs = vs.map some ++ List.replicate (m - n) none := by unfold L2.start; rw [hm, hl]
  have st1 : Stands K ⟨as.map some ++ List.replicate (m - n) none, μ⟩ (L2.start N vs) H Φ Ad [] G := by
    rw [eσ]
    exact ⟨st0.le, ro_of (ro_none _) ra, st0.rc, st0.nd⟩
  have toStep : ∀ {T' G' : List Addr} {H' Φ' : Hp} {A' : List Addr}, Run [] G H Φ Ad T' G' H' Φ' A' → Step [] G H Φ Ad T' G' H' Φ' A' := fun r => ⟨fun b o e hn => r.keep b o e (by simp) hn, r.le, r.grow, fun b hb => r.own b (.inl hb), fun b hb => (r.own b (.inr hb)).elim (fun z => by simp at z) id, r.live, r.cells⟩
  cases e : fb ⟨as.map some ++ List.replicate (m - n) none, μ⟩ with
  | none => rw [e] at hf; cases hf
  | some out =>
    rw [e] at hf
    refine d.ev _ (L2.start N vs) H Φ Ad [] G st1 out e _ ?_
    cases out with
    | nx S' =>
      cases hf
      intro σ' H' Φ' A' F' G' rn st'
      exact post .non H' Φ' A' [] G' (toStep (rn.sub fun b hb => hb.elim (fun h => by simp at h) .inr)) ⟨st'.le, .nil, st'.rc, (List.nodup_append.mp st'.nd).2.1⟩ (.dat .non) (by simpa using (List.nodup_append.mp st'.nd).2.1)
    | rt x μ' =>
      cases hf
      exact fun v H' Φ' A' T' G' rn st' rs nd => post v H' Φ' A' T' G' (toStep rn) st' rs nd
    | exc ex S' =>
      cases hf
      exact fun c dd σ' H' Φ' A' F' G' rn st' rx => post c dd H' Φ' A' G' (toStep (rn.sub fun b hb => hb.elim (fun h => by simp at h) .inr)) ⟨st'.le, .nil, st'.rc, (List.nodup_append.mp st'.nd).2.1⟩ rx
    | bk S' => cases hf
    | ct S' => cases hf
end
end L3
namespace L3
open PySem PySem.Spec PyProof.Rows L2
mutual
noncomputable def D.py : D → Option PyData
  | .non => some .none
  | .bl b => some (.bool b)
  | .int i => some (.int i)
  | .str x => some (.str x)
  | .lst xs => (pys xs).map PyData.list
  | .tup xs => (pys xs).map PyData.tuple
  | .kl xs => (pys xs).map PyData.list
  | .kt xs => (pys xs).map PyData.tuple
  | .dK _ _ => none
  | .dT _ _ => none
  | .wK _ _ => none
  | .wT _ _ => none
  | .fn _ => none
  | .exc _ _ _ => none
noncomputable def pys : List D → Option (List PyData)
  | [] => some []
  | d :: ds => (d.py).bind fun p => (pys ds).map fun ps => p :: ps
end
mutual
theorem Rp.dp {K : PySem.W.Frag} {H : Hp} : ∀ {v : V} {d : D} {p : PyData}, Rp K H v d → d.py = some p → Dp K H v p
  | _, _, _, .non, e => by unfold D.py at e; cases e; exact .non
  | _, _, _, .bl b, e => by unfold D.py at e; cases e; exact .bl b
  | _, _, _, .int i, e => by unfold D.py at e; cases e; exact .int i
  | _, _, _, .str x, e => by unfold D.py at e; cases e; exact .str x
  | _, _, p, .lst (ds := ds) q r, e => by
    have e : (pys ds).map PyData.list = some p := by rw [← e]; unfold D.py; rfl
    cases e2 : pys ds with
    | none => rw [e2] at e; cases e
    | some ps => rw [e2] at e; cases e; exact .lst (.inl (.inl q)) (Rps.dp r e2)
  | _, _, p, .tup (ds := ds) q r, e => by
    have e : (pys ds).map PyData.tuple = some p := by rw [← e]; unfold D.py; rfl
    cases e2 : pys ds with
    | none => rw [e2] at e; cases e
    | some ps => rw [e2] at e; cases e; exact .tup (.inl (.inl q)) (Rps.dp r e2)
  | _, _, p, .kl (ds := ds) q r, e => by
    have e : (pys ds).map PyData.list = some p := by rw [← e]; unfold D.py; rfl
    cases e2 : pys ds with
    | none => rw [e2] at e; cases e
    | some ps => rw [e2] at e; cases e; exact .lst q (Rps.dp r e2)
  | _, _, p, .kt (ds := ds) q r, e => by
    have e : (pys ds).map PyData.tuple = some p := by rw [← e]; unfold D.py; rfl
    cases e2 : pys ds with
    | none => rw [e2] at e; cases e
    | some ps => rw [e2] at e; cases e; exact .tup q (Rps.dp r e2)
  | _, _, _, .dK _ _ _, e => by unfold D.py at e; cases e
  | _, _, _, .dT _ _ _, e => by unfold D.py at e; cases e
  | _, _, _, .wK _ _ _, e => by unfold D.py at e; cases e
  | _, _, _, .wT _ _ _, e => by unfold D.py at e; cases e
  | _, _, _, .fn _ _, e => by unfold D.py at e; cases e
  | _, _, _, .exc _ _ _ _ _, e => by unfold D.py at e; cases e
theorem Rps.dp {K : PySem.W.Frag} {H : Hp} : ∀ {vs : List V} {ds : List D} {ps : List PyData}, Rps K H vs ds → pys ds = some ps → DpAll K H vs ps
  | _, _, _, .nil, e => by unfold pys at e; cases e; exact .nil
  | _, _, ps, .cons (d := d) (ds := ds) q r, e => by
    rw [pys] at e
    cases e1 : d.py with
    | none => rw [e1] at e; cases e
    | some p =>
      cases e2 : pys ds with
      | none => rw [e1, e2] at e; cases e
      | some qs => rw [e1, e2] at e; cases e; exact .cons (Rp.dp q e1) (Rps.dp r e2)
end
noncomputable def eqP (x y : D) : Option Bool := match x.py, y.py with
  | some p, some q => if SeqAt.shaped p = true ∧ SeqAt.shaped q = true then some (PyData.eqv p q) else none
  | _, _ => none
noncomputable def eqD (x y : D) : Option Bool := match x, y with
  | .str a, .str b => some (decide (a = b))
  | .int a, .int b => some (decide (a = b))
  | x, y => eqP x y
noncomputable def dEq : D → D → Option D := fun x y => (eqD x y).map D.bl
noncomputable def dNe : D → D → Option D := fun x y => (eqD x y).map fun b => .bl (!b)
noncomputable def rEqA (K : PySem.W.Frag) : R2 := fun x y H Q => rEq x y H Q ∨ rEqD K x y H Q
noncomputable def rNeA (K : PySem.W.Frag) : R2 := fun x y H Q => rNe x y H Q ∨ rNeD K x y H Q
theorem op_eqA {X : Cx} (hu : X.A.units + 64 < cLine) : OpR X (compareOp .Eq) (rEqA X.K) := op_eq.or (op_eqD hu)
theorem op_neA {X : Cx} (hu : X.A.units + 64 < cLine) : OpR X (compareOp .NotEq) (rNeA X.K) := op_ne.or (op_neD hu)
theorem eqD_ok {K : PySem.W.Frag} {H : Hp} {x y : V} {dx dy : D} {b : Bool} (rx : Rp K H x dx) (ry : Rp K H y dy) (e : eqD dx dy = some b) :
    (scal x y = true ∧ b = decide (x = y)) ∨ ∃ p q, Dp K H x p ∧ Dp K H y q ∧ SeqAt.shaped p = true ∧ SeqAt.shaped q = true ∧ b = PyData.eqv p q := by
  have gen : eqP dx dy = some b → ∃ p q, Dp K H x p ∧ Dp K H y q ∧ SeqAt.shaped p = true ∧ SeqAt.shaped q = true ∧ b = PyData.eqv p q := fun e => by
    unfold eqP at e
    cases e1 : dx.py with
    | none => rw [e1] at e; cases e
    | some p =>
      cases e2 : dy.py with
      | none => rw [e1, e2] at e; cases e
      | some p' =>
        rw [e1, e2] at e
        dsimp only at e
        by_cases h : SeqAt.shaped p = true ∧ SeqAt.shaped p' = true
        · rw [if_pos h] at e; cases e
          exact ⟨p, p', rx.dp e1, ry.dp e2, h.1, h.2, rfl⟩
        · rw [if_neg h] at e; cases e
  unfold eqD at e
  split at e
  · cases e; cases rx; cases ry
    exact .inl ⟨rfl, by simp⟩
  · cases e; cases rx; cases ry
    exact .inl ⟨rfl, by simp⟩
  · exact .inr (gen e)
theorem og_eq {K : PySem.W.Frag} : OpG K (rEqA K) (g2 dEq) := opG_scal fun H x y dx dy z rx ry e Q q => by
  unfold dEq at e
  cases e1 : eqD dx dy with
  | none => rw [e1] at e; cases e
  | some b =>
    rw [e1] at e; cases e
    rcases eqD_ok rx ry e1 with ⟨h, rfl⟩ | ⟨p, p', h1, h2, h3, h4, rfl⟩
    · exact .inl ⟨h, q _ fun H' => .bl _⟩
    · exact .inr ⟨p, p', h1, h2, h3, h4, q _ fun H' => .bl _⟩
theorem og_ne {K : PySem.W.Frag} : OpG K (rNeA K) (g2 dNe) := opG_scal fun H x y dx dy z rx ry e Q q => by
  unfold dNe at e
  cases e1 : eqD dx dy with
  | none => rw [e1] at e; cases e
  | some b =>
    rw [e1] at e; cases e
    rcases eqD_ok rx ry e1 with ⟨h, rfl⟩ | ⟨p, p', h1, h2, h3, h4, rfl⟩
    · exact .inl ⟨h, q _ fun H' => .bl _⟩
    · exact .inr ⟨p, p', h1, h2, h3, h4, q _ fun H' => .bl _⟩
noncomputable def SV.isN : SV → Bool
  | .dat .non => true
  | _ => false
noncomputable def gIs (neg : Bool) : G2 := fun ra rb S => match ra.sv S, rb.sv S with
  | some a, some (.dat .non) => some (.b (if neg then !a.isN else a.isN), S)
  | _, _ => none
theorem isN_ok {K : PySem.W.Frag} {Φ H : Hp} {A : List Addr} {v : V} {x : SV} {T : List Addr} (h : RS K Φ H A v x T) : decide (v = .non) = x.isN := by
  cases h with
  | dat q => cases q <;> simp [SV.isN]
  | node => simp [SV.isN]
  | cell => simp [SV.isN]
theorem og_is {K : PySem.W.Frag} (neg : Bool) : OpG K (fun x y H Q => y = .non ∧ Q (.bl (if neg then !decide (x = .non) else decide (x = .non))) H) (gIs neg) := by
  intro S σ H Φ A F G x y ra rb T U st rx ry nd rz S' e Q q
  unfold gIs at e
  cases e1 : ra.sv S with
  | none => rw [e1] at e; cases e
  | some a =>
    cases e2 : rb.sv S with
    | none => rw [e1, e2] at e; cases e
    | some b =>
      rw [e1, e2] at e
      obtain ⟨Ua, qa, _⟩ := rx.rs st e1
      cases b with
      | dat db =>
        cases db <;> try cases e
        have hy : y = .non := by cases ry.dat st e2; rfl
        refine ⟨hy, ?_⟩
        rw [isN_ok qa]
        exact q _ H Φ A [] F G ⟨fun _ _ e _ => e, fun _ _ e => e, fun _ _ e => .inl e, fun b hb => .inl (by simp only [List.nil_append] at hb; simp [hb]), fun _ h => .inl h, fun _ h => h, Pfx.refl⟩ st (RS.dat (.bl _)) (by simpa using st.nd) .refl
      | node n xs => cases e
      | cell k => cases e
theorem og_isN {K : PySem.W.Frag} : OpG K (fun x y H Q => y = .non ∧ Q (.bl (decide (x = .non))) H) (gIs false) := og_is false
theorem its2_ok {K : PySem.W.Frag} {S : Sto} {σ : Sl} {H Φ : Hp} {A F G T U : List Addr} {x y : V} {ra rb : R} (st : Stands K S σ H Φ A F G) (hx : RV K Φ H A S σ x ra T) (hy : RV K Φ H A S σ y rb U) (nd : (T ++ (U ++ (F ++ G))).Nodup)
    {t t' : Bool} {xs ys : List D} (e1 : ra.its S = some (t, xs)) (e2 : rb.its S = some (t', ys)) :
    ∃ Φ' a b vs ws, x = .ref a ∧ y = .ref b ∧ SeqV K H a t vs ∧ SeqV K H b t' ws ∧ Rps K Φ' vs xs ∧ Rps K Φ' ws ys ∧ Step (T ++ (U ++ F)) G H Φ A F G H Φ' A ∧ Stands K S σ H Φ' A F G := by
  have ndU : (U ++ (F ++ G)).Nodup := (List.nodup_append.mp nd).2.1
  have ndT : (T ++ (F ++ G)).Nodup := nd.sublist ((List.Sublist.refl T).append (List.sublist_append_right U _))
  obtain ⟨Φ1, b, ws, rfl, s1, r1, sp1, st1⟩ := its_ok st hy ndU e2
  have hx1 : RV K Φ1 H A S σ x ra T := RV.step' st hx (by simpa [List.append_assoc] using nd) sp1 .refl
  obtain ⟨Φ2, a, vs, rfl, s2, r2, sp2, st2⟩ := its_ok st1 hx1 ndT e1
  refine ⟨Φ2, a, b, vs, ws, rfl, rfl, s2, s1, r2, r1.mono sp2.le, ⟨fun _ _ e _ => e, sp1.le.trans sp2.le, fun c o e => ?_, fun c hc => .inl (by simp [hc]), fun _ h => .inl h, fun _ h => h, Pfx.refl⟩, st2⟩
  rcases sp2.grow c o e with h | h | h | h
  · rcases sp1.grow c o h with h | h | h | h
    · exact .inl h
    · exact .inr (.inl (by simp only [List.mem_append] at h ⊢; grind))
    · exact .inr (.inr (.inl h))
    · exact .inr (.inr (.inr h))
  · exact .inr (.inl (by simp only [List.mem_append] at h ⊢; grind))
  · exact .inr (.inr (.inl h))
  · exact .inr (.inr (.inr h))
theorem rss_dat {K : PySem.W.Frag} {Φ H : Hp} {A : List Addr} : ∀ {vs : List V} {ds : List D}, Rps K Φ vs ds → RSs K Φ H A vs (ds.map SV.dat) []
  | _, _, .nil => .nil
  | _, _, .cons q r => .cons (F := []) (.dat q) (rss_dat r)
theorem end_list {K : PySem.W.Frag} {S : Sto} {σ : Sl} {H Φ Φ' : Hp} {A F F0 G : List Addr} {Q : VK} {vs : List V} {ds : List D} {p : Addr}
    (q : ∀ v H' Φ' A' V F' G', Step F0 G H Φ A (V ++ F') G' H' Φ' A' → Stands K S σ H' Φ' A' F' G' → RV K Φ' H' A' S σ v (.val (.own (ds.map SV.dat))) V → (V ++ (F' ++ G')).Nodup → Frz S S → Q v H')
    (sp : Step F0 G H Φ A F G H Φ' A) (st : Stands K S σ H Φ' A F G) (r : Rps K Φ' vs ds) (hp : H p = none) : Q (.ref p) (upd H p (.lst vs)) := by
  obtain ⟨n1, n2, n3, n4⟩ := new_list st (rss_dat (H := H) (A := A) r) (by simpa using st.nd) hp
  exact q (.ref p) _ _ _ [p] F G (sp.trans0 n1) n2 n3 n4 .refl
theorem end_tup {K : PySem.W.Frag} {S : Sto} {σ : Sl} {H Φ Φ' : Hp} {A F F0 G : List Addr} {Q : VK} {vs : List V} {ds : List D} {p : Addr}
    (q : ∀ v H' Φ' A' V F' G', Step F0 G H Φ A (V ++ F') G' H' Φ' A' → Stands K S σ H' Φ' A' F' G' → RV K Φ' H' A' S σ v (.d (.tup ds)) V → (V ++ (F' ++ G')).Nodup → Frz S S → Q v H')
    (sp : Step F0 G H Φ A F G H Φ' A) (st : Stands K S σ H Φ' A F G) (r : Rps K Φ' vs ds) (hp : H p = none) : Q (.ref p) (upd H p (.tup vs)) := by
  obtain ⟨n1, n2, n3⟩ := new_frz (o := .tup vs) st hp
  exact q (.ref p) _ _ _ [] F G (sp.trans0 n1) n2 (RS.dat (.tup upd_same (r.mono n3))) (by simpa using n2.nd) .refl
noncomputable def rCatR (K : PySem.W.Frag) : R2 := fun x y H Q => ∃ l b xs zs, x = .ref l ∧ y = .ref b ∧ SqL K H l xs ∧ SqL K H b zs ∧ xs.length + zs.length ≤ sizeLine ∧ ∀ p, H p = none → Q (.ref p) (upd H p (.lst (xs ++ zs)))
theorem op_catR {X : Cx} : OpR X (binaryOp .Add) (rCatR X.K) := by
  rintro pins s σ H x y v u Q I rx ry ⟨l, b, xs, zs, rfl, rfl, hl, hb, hz, q⟩
  cases rx
  cases ry
  obtain ⟨its, r1, pl1, _⟩ := I.list hl
  obtain ⟨its2, r2, pl2, _⟩ := I.list hb
  have l1 := r1.length
  have l2 := r2.length
  obtain ⟨⟨cls, dd, data, sl⟩, ho, hc, m, hd⟩ := id pl1.isList
  obtain ⟨⟨cls2, dd2, data2, sl2⟩, ho2, hc2, m2, hd2⟩ := id pl2.isList
  simp only at hc hd hc2 hd2
  subst hc hd hc2 hd2
  have e : its.toArray ++ its2.toArray = (its ++ its2).toArray := by simp
  refine concat_meets ⟨_, ho, rfl⟩ ⟨_, ho2, rfl⟩ noFill_list_add seq_list_add PySem.F.slot_list_add PySem.F.entry_list_add (PySem.F.args_list_add_2 _ _) (list_addW l b its.toArray its2.toArray m m2 dd dd2 sl sl2 (by simp only [List.size_toArray]; omega)) ⟨ho, ho2, ?_⟩
  rw [e]
  exact ⟨.ref _, _, I.lnew (t' := s.toks) (r1.append r2) (by rw [List.length_append]; omega), rfl, q _ I.fresh⟩
noncomputable def gCat : G2 := fun ra rb S => match ra.its S, rb.its S with
  | some (false, xs), some (false, ys) => if xs.length + ys.length ≤ 1000000 then some (.val (.own ((xs ++ ys).map SV.dat)), S) else none
  | _, _ => none
theorem k1000000 {n : Nat} (h : n ≤ 1000000) : n ≤ sizeLine := Nat.le_trans h (by rw [sizeLine_eq]; decide)
theorem og_cat {K : PySem.W.Frag} : OpG K (rCatR K) gCat := by
  intro S σ H Φ A F G x y ra rb T U st rx ry nd rz S' e Q q
  unfold gCat at e
  cases e1 : ra.its S with
  | none => rw [e1] at e; cases e
  | some z1 =>
    obtain ⟨t1, xs⟩ := z1
    cases e2 : rb.its S with
    | none => rw [e1, e2] at e; cases t1 <;> cases e
    | some z2 =>
      obtain ⟨t2, ys⟩ := z2
      rw [e1, e2] at e
      cases t1 <;> cases t2 <;> try cases e
      dsimp only at e
      split at e
      · rename_i hl
        cases e
        obtain ⟨Φ', a, b, vs, ws, rfl, rfl, s1, s2, r1, r2, sp, st'⟩ := its2_ok st rx ry nd e1 e2
        have s1 : SqL K H a vs := s1
        have s2 : SqL K H b ws := s2
        refine ⟨a, b, vs, ws, rfl, rfl, s1, s2, by rw [r1.length, r2.length]; exact k1000000 hl, fun p hp => ?_⟩
        exact end_list q sp st' (r1.append r2) hp
      · cases e
noncomputable def gCatT : G2 := fun ra rb S => match ra.its S, rb.its S with
  | some (true, xs), some (true, ys) => if xs.length + ys.length ≤ 1000000 then some (.d (.tup (xs ++ ys)), S) else none
  | _, _ => none
theorem its_tup {S : Sto} {r : R} {ds : List D} (e : r.its S = some (true, ds)) : r.sv S = some (.dat (.tup ds)) := by
  unfold R.its at e
  cases ex : r.sv S with
  | none => rw [ex] at e; cases e
  | some x =>
    rw [ex] at e
    cases x with
    | cell k => cases e
    | dat d => cases d <;> cases e; rfl
    | node n xs =>
      cases n <;> try cases e
      cases r with
      | val y =>
        have e : (peeks xs).map (fun ds => (false, ds)) = some (true, ds) := e
        cases e2 : peeks xs <;> rw [e2] at e <;> cases e
      | bor i p =>
        have e : (dats xs).map (fun ds => (false, ds)) = some (true, ds) := e
        cases e2 : dats xs <;> rw [e2] at e <;> cases e
theorem og_catT {K : PySem.W.Frag} : OpG K (rCatA K) gCatT := by
  intro S σ H Φ A F G x y ra rb T U st rx ry nd rz S' e Q q
  unfold gCatT at e
  cases e1 : ra.its S with
  | none => rw [e1] at e; cases e
  | some z1 =>
    obtain ⟨t1, xs⟩ := z1
    cases e2 : rb.its S with
    | none => rw [e1, e2] at e; cases t1 <;> cases e
    | some z2 =>
      obtain ⟨t2, ys⟩ := z2
      rw [e1, e2] at e
      cases t1 <;> cases t2 <;> try cases e
      dsimp only at e
      split at e
      · rename_i hl
        cases e
        have d1 := rx.dat st (its_tup e1)
        have d2 := ry.dat st (its_tup e2)
        have stay : Step (T ++ (U ++ F)) G H Φ A ([] ++ F) G H Φ A := ⟨fun _ _ e _ => e, fun _ _ e => e, fun _ _ e => .inl e, fun b hb => .inl (by simp only [List.nil_append] at hb; simp [hb]), fun _ h => .inl h, fun _ h => h, Pfx.refl⟩
        cases d1 with
        | tup s1 r1 =>
          rename_i a vs
          cases d2 with
          | tup s2 r2 =>
            rename_i b ws
            refine ⟨a, b, vs, ws, rfl, rfl, .inl (.inl (st.le _ _ s1)), .inl (.inl (st.le _ _ s2)), by rw [r1.length, r2.length]; exact k1000000 hl, fun hv => ?_, fun hv hw => ?_, fun hv hw p hp => ?_⟩
            · subst hv; cases r1
              exact q _ H Φ A [] F G stay st (RS.dat (.tup s2 r2)) (by simpa using st.nd) .refl
            · subst hw; cases r2
              refine q _ H Φ A [] F G stay st (RS.dat ?_) (by simpa using st.nd) .refl
              rw [List.append_nil]; exact .tup s1 r1
            · exact end_tup q stay st (r1.append r2) hp
      · cases e
noncomputable def sAdd : D → D → Option D
  | .str x, .str y => if x.length + y.length ≤ 1000000 then some (.str (x ++ y)) else none
  | _, _ => none
theorem sAdd_some {dx dy z : D} (e : sAdd dx dy = some z) : ∃ x y, dx = .str x ∧ dy = .str y ∧ x.length + y.length ≤ 1000000 ∧ z = .str (x ++ y) := by
  unfold sAdd at e
  split at e
  · split at e
    · cases e; exact ⟨_, _, rfl, rfl, by assumption, rfl⟩
    · cases e
  · cases e
theorem og_addS {K : PySem.W.Frag} : OpG K (fun x y H Q => ∃ i j, x = .str i ∧ y = .str j ∧ i.length + j.length ≤ sizeLine ∧ Q (.str (i ++ j)) H) (g2 sAdd) := opG_scal fun H x y dx dy z rx ry e Q q => by
  obtain ⟨i, j, rfl, rfl, hl, rfl⟩ := sAdd_some e
  cases rx
  cases ry
  exact ⟨_, _, rfl, rfl, k1000000 hl, q _ fun H' => .str _⟩
theorem og_addI {K : PySem.W.Frag} : OpG K (rI0 fun i j => .int (i + j)) (g2 (dI iAdd)) := opG_int0 fun i j z e H => by cases e; exact .int _
noncomputable def gAdd : G2 := fun ra rb S => (g2 (dI iAdd) ra rb S).orElse fun _ => (g2 sAdd ra rb S).orElse fun _ => (gCat ra rb S).orElse fun _ => gCatT ra rb S
noncomputable def rAddP (K : PySem.W.Frag) : R2 := fun x y H Q => rI0 (fun i j => .int (i + j)) x y H Q ∨ ((∃ i j, x = .str i ∧ y = .str j ∧ i.length + j.length ≤ sizeLine ∧ Q (.str (i ++ j)) H) ∨ (rCatR K x y H Q ∨ rCatA K x y H Q))
theorem op_addP {X : Cx} : OpR X (binaryOp .Add) (rAddP X.K) := op_add.or (op_add_str.or (op_catR.or op_catA))
theorem og_addP {K : PySem.W.Frag} : OpG K (rAddP K) gAdd := og_addI.or (og_addS.or (og_cat.or og_catT))
section
variable {X : Cx} {W : WX} {a b c : Expr} {pos : Pos} {ta tb tc : TE} {fa fb fc : FE}
theorem de_add (ha : DE X W a ta fa) (hb : DE X W b tb fb) : DE X W (.BinOp a .Add b pos) (tOp (rAddP X.K) ta tb) (fBin gAdd fa fb) := de_bin op_addP og_addP ha hb
theorem de_sub (ha : DE X W a ta fa) (hb : DE X W b tb fb) : DE X W (.BinOp a .Sub b pos) (tOp (rI0 fun i j => .int (i - j)) ta tb) (fBin (g2 (dI iSub)) fa fb) := de_bin op_sub og_sub ha hb
theorem de_fdiv (ha : DE X W a ta fa) (hb : DE X W b tb fb) : DE X W (.BinOp a .FloorDiv b pos) (tOp (rI CDiv fun i j => .int (i / j)) ta tb) (fBin (g2 (dI iDiv)) fa fb) := de_bin op_fdiv og_div ha hb
theorem de_mod (ha : DE X W a ta fa) (hb : DE X W b tb fb) : DE X W (.BinOp a .Mod b pos) (tOp (rI (fun _ j => 0 < j) fun i j => .int (i % j)) ta tb) (fBin (g2 (dI iMod)) fa fb) := de_bin op_mod og_mod ha hb
theorem de_pow (ha : DE X W a ta fa) (hb : DE X W b tb fb) : DE X W (.BinOp a .Pow b pos) (tOp (rI CPow fun i j => .int (i ^ j.toNat)) ta tb) (fBin (g2 (dI iPow)) fa fb) := de_bin op_pow og_pow ha hb
end
theorem og_mulI {K : PySem.W.Frag} : OpG K (rI CMul fun i j => .int (i * j)) (g2 (dI iMul)) := opG_int fun i j z e => by
  unfold iMul at e; split at e
  · cases e; exact ⟨by assumption, fun H => .int _⟩
  · cases e
noncomputable def strLt (x y : Str) : Bool := decide (x.cps.toList < y.cps.toList)
end L3
namespace L3
open PySem PySem.Spec PyProof.Rows L2
noncomputable def D.key : D → Option Key
  | .int i => some (.inl i)
  | .str x => some (.inr x)
  | _ => none
noncomputable def keysD : List D → Option (List Key)
  | [] => some []
  | d :: ds => (d.key).bind fun k => (keysD ds).map fun ks => k :: ks
noncomputable def look {κ : Type} [DecidableEq κ] (k : κ) : List κ → List SV → Option SV
  | j :: ks, x :: xs => if j = k then some x else look k ks xs
  | _, _ => none
noncomputable def nget (n : Nd) (xs : List SV) (k : D) : Option (Option SV) := match n with
  | .dK ks => (k.key).map fun k => look k ks xs
  | .dT ks => match k with
    | .tup ds => (keysD ds).map fun k => look k ks xs
    | _ => none
  | _ => none
noncomputable def SV.dget (S : Sto) (x : SV) (k : D) : Option (Option SV) := match x with
  | .cell c => match S.μ[c]? with
    | some (.node n xs) => nget n xs k
    | _ => none
  | .node n xs => nget n xs k
  | .dat (.dK ks ds) => nget (.dK ks) (ds.map SV.dat) k
  | .dat (.dT ks ds) => nget (.dT ks) (ds.map SV.dat) k
  | .dat (.wK ks ds) => nget (.dK ks) (ds.map SV.dat) k
  | .dat (.wT ks ds) => nget (.dT ks) (ds.map SV.dat) k
  | _ => none
section
variable {K : PySem.W.Frag} {S : Sto} {σ : Sl} {H Φ : Hp} {A F G T : List Addr} {v : V} {r : R}
theorem key_rp {H : Hp} {v : V} {d : D} {k : Key} (h : Rp K H v d) (e : d.key = some k) : v = kV k := by
  cases h <;> cases e <;> rfl
theorem keys_rps {H : Hp} : ∀ {vs : List V} {ds : List D} {ks : List Key}, Rps K H vs ds → keysD ds = some ks → vs = ks.map kV
  | _, _, _, .nil, e => by rw [keysD] at e; cases e; rfl
  | _, _, ks, .cons (d := d) (ds := ds) q r, e => by
    rw [keysD] at e
    cases e1 : d.key with
    | none => rw [e1] at e; cases e
    | some k =>
      cases e2 : keysD ds with
      | none => rw [e1, e2] at e; cases e
      | some js => rw [e1, e2] at e; cases e; rw [key_rp q e1, keys_rps r e2]; rfl
theorem look_val {κ : Type} [DecidableEq κ] {A : List Addr} (k : κ) :
    ∀ {ks : List κ} {vs : List V} {xs : List SV} {U : List Addr}, ks.length = vs.length → RSs K Φ H A vs xs U → (look k ks xs = none → valV (ks.zip vs) k = none) ∧ ∀ x, look k ks xs = some x → ∃ v U', valV (ks.zip vs) k = some v ∧ RS K Φ H A v x U' ∧ (∀ b ∈ U', b ∈ U)
  | [], [], _, _, _, .nil => ⟨fun _ => rfl, fun x h => by rw [look] at h; cases h; intros; contradiction⟩
  | j :: ks, v :: vs, _, _, hk, .cons (x := x0) (xs := xs) (F := F0) (G := G0) q r => by
    have ih := look_val k (ks := ks) (by simpa using hk) r
    rw [look, List.zip_cons_cons]
    by_cases e : j = k
    · rw [if_pos e]
      refine ⟨fun h => (by cases h), fun x h => ?_⟩
      cases h
      exact ⟨v, F0, valV_pos e, q, fun b hb => List.mem_append_left _ hb⟩
    · rw [if_neg e, valV_neg (p := (j, v)) e]
      refine ⟨ih.1, fun x h => ?_⟩
      obtain ⟨w, U', h1, h2, h3⟩ := ih.2 x h
      exact ⟨w, U', h1, h2, fun b hb => List.mem_append_right _ (h3 b hb)⟩
  | [], _ :: _, _, _, hk, _ => by simp at hk
  | _ :: _, [], _, _, hk, _ => by simp at hk
noncomputable def NdAt (H : Hp) (a : Addr) (n : Nd) (vs : List V) : Prop := match n with
  | .dK ks => Rd H a (.dK (ks.zip vs))
  | .dT ks => Rd H a (.dT (ks.zip vs))
  | _ => False
theorem nget_ok {n : Nd} {vs : List V} {xs : List SV} {U0 : List Addr} {a : Addr} {y : V} {k : D} {o : Option SV} (hn : NdAt H a n vs) (hl : n.len vs.length) (rs : RSs K Φ H A vs xs U0) (hk : Rp K H y k) (hf : ∀ a ds, y = .ref a → k = .tup ds → ∃ vs, H a = some (.tup vs) ∧ Rps K H vs ds) (e : nget n xs k = some o) :
    ∃ ov, DGet H a y ov ∧ ((o = none ∧ ov = none) ∨ ∃ z w U', o = some z ∧ ov = some w ∧ RS K Φ H A w z U' ∧ (∀ b ∈ U', b ∈ U0)) := by
  cases n with
  | lst => cases e
  | ins C dx ks => cases e
  | dK ks =>
    have e : (k.key).map (fun k => look k ks xs) = some o := e
    cases ek : k.key with
    | none => rw [ek] at e; cases e
    | some j =>
      rw [ek] at e
      have e : some (look j ks xs) = some o := e
      obtain ⟨l1, l2⟩ := look_val j hl rs
      have ey := key_rp hk ek
      subst ey
      cases o with
      | none => exact ⟨none, .inl ⟨_, _, hn, rfl, (l1 (Option.some.inj e)).symm⟩, .inl ⟨rfl, rfl⟩⟩
      | some z =>
        obtain ⟨w, U', h1, h2, h3⟩ := l2 z (Option.some.inj e)
        exact ⟨some w, .inl ⟨_, _, hn, rfl, h1.symm⟩, .inr ⟨z, w, U', rfl, rfl, h2, h3⟩⟩
  | dT ks =>
    cases k with
    | tup ds =>
      have e : (keysD ds).map (fun k => look k ks xs) = some o := e
      cases ek : keysD ds with
      | none => rw [ek] at e; cases e
      | some j =>
        rw [ek] at e
        have e : some (look j ks xs) = some o := e
        obtain ⟨l1, l2⟩ := look_val j hl rs
        cases hk with
        | tup sq rr =>
          rename_i b ws
          obtain ⟨ws', et, rr'⟩ := hf b ds rfl rfl
          have ew := keys_rps rr' ek
          subst ew
          cases o with
          | none => exact ⟨none, .inr ⟨_, _, _, hn, rfl, et, (l1 (Option.some.inj e)).symm⟩, .inl ⟨rfl, rfl⟩⟩
          | some z =>
            obtain ⟨w, U', h1, h2, h3⟩ := l2 z (Option.some.inj e)
            exact ⟨some w, .inr ⟨_, _, _, hn, rfl, et, h1.symm⟩, .inr ⟨z, w, U', rfl, rfl, h2, h3⟩⟩
    | _ => cases e
theorem dget_ok {x : SV} {U : List Addr} {y : V} {k : D} {o : Option SV} (st : Stands K S σ H Φ A F G) (h : RS K Φ H A v x U) (hk : Rp K H y k) (hf : ∀ a ds, y = .ref a → k = .tup ds → ∃ vs, H a = some (.tup vs) ∧ Rps K H vs ds) (e : x.dget S k = some o) :
    ∃ a ov, v = .ref a ∧ DGet H a y ov ∧ ((o = none ∧ ov = none) ∨ ∃ z w U', o = some z ∧ ov = some w ∧ RS K Φ H A w z U' ∧ (∀ b ∈ U', b ∈ U ∨ b ∈ G)) := by
  have fin : ∀ {a : Addr} {n : Nd} {vs : List V} {xs : List SV} {U0 : List Addr}, v = .ref a → NdAt H a n vs → n.len vs.length → RSs K Φ H A vs xs U0 → nget n xs k = some o → (∀ b ∈ U0, b ∈ U ∨ b ∈ G) →
      ∃ a ov, v = .ref a ∧ DGet H a y ov ∧ ((o = none ∧ ov = none) ∨ ∃ z w U', o = some z ∧ ov = some w ∧ RS K Φ H A w z U' ∧ (∀ b ∈ U', b ∈ U ∨ b ∈ G)) := fun {a n vs xs U0} hv h1 h2 h3 h4 h5 => by
    obtain ⟨ov, g, c⟩ := nget_ok h1 h2 h3 hk hf h4
    refine ⟨a, ov, hv, g, c.imp id ?_⟩
    rintro ⟨z, w, U', q1, q2, q3, q4⟩
    exact ⟨z, w, U', q1, q2, q3, fun b hb => h5 b (q4 b hb)⟩
  have nd : ∀ {a : Addr} {n : Nd} {vs : List V}, H a = some (n.ho vs) → (∀ xs, nget n xs k ≠ none → NdAt H a n vs) := fun {a n vs} ea xs hn => by
    cases n with
    | lst => exact absurd rfl hn
    | ins C dx ks => exact absurd rfl hn
    | dK ks => exact .inl ea
    | dT ks => exact .inl ea
  cases x with
  | dat d =>
    cases h with
    | dat q =>
      cases d <;> try cases e
      · cases q with
        | dK rd hl rr => exact fin (n := .dK _) rfl (Rd.mono st.le rd) hl (rss_dat rr) e (fun b hb => by simp at hb)
      · cases q with
        | dT rd hl rr => exact fin (n := .dT _) rfl (Rd.mono st.le rd) hl (rss_dat rr) e (fun b hb => by simp at hb)
      · cases q with
        | wK rd hl rr => exact fin (n := .dK _) rfl (Rd.mono st.le (.inr ⟨_, rd⟩)) hl (rss_dat rr) e (fun b hb => by simp at hb)
      · cases q with
        | wT rd hl rr => exact fin (n := .dT _) rfl (Rd.mono st.le (.inr ⟨_, rd⟩)) hl (rss_dat rr) e (fun b hb => by simp at hb)
  | node n xs =>
    cases h with
    | node ea f pa q =>
      have e : nget n xs k = some o := e
      exact fin rfl (nd ea xs (by rw [e]; simp)) f.1 q e (fun b hb => .inl (List.mem_cons_of_mem _ hb))
  | cell c =>
    cases h with
    | cell hc =>
      unfold SV.dget at e
      dsimp only at e
      cases em : S.μ[c]? with
      | none => rw [em] at e; cases e
      | some x =>
        rw [em] at e
        obtain ⟨a, F1, Fi, F2, e1, e2, rs, _⟩ := st.rc.at em
        rw [hc] at e1; cases e1
        cases x with
        | dat d => cases e
        | cell c => cases e
        | node n xs =>
          cases rs with
          | node ea f pa q =>
            have e : nget n xs k = some o := e
            exact fin rfl (nd ea xs (by rw [e]; simp)) f.1 q e (fun b hb => .inr (by rw [e2]; simp [hb]))
end
end L3
namespace L3
open PySem PySem.Spec PyProof.Rows L2
noncomputable def intOf : D → Option Int
  | .int i => some i
  | _ => none
theorem intOf_some {d : D} {i : Int} (h : intOf d = some i) : d = .int i := by
  cases d <;> cases h; rfl
noncomputable def kidR (ra : R) (j : Nat) : SV → Option R
  | .dat d => some (.d d)
  | .cell c => some (.val (.cell c))
  | .node _ _ => match ra with
    | .bor i p => some (.bor i (p ++ [j]))
    | .val _ => none
noncomputable def gIxS : G2 := fun ra rb S => (rb.peek S).bind fun k => (intOf k).bind fun i => match ra.sv S with
  | some (.dat (.lst ds)) => (atI ds i).map fun d => (.d d, S)
  | some (.dat (.tup ds)) => (atI ds i).map fun d => (.d d, S)
  | some (.dat (.kt ds)) => (atI ds i).map fun d => (.d d, S)
  | some (.dat (.str x)) => if x.length ≤ 1000000 then (atI x.cps.toList i).map fun c => (.d (.str ⟨#[c]⟩), S) else none
  | some (.node .lst xs) => (ixN xs.length i).bind fun j => (xs[j]?).bind fun x => (kidR ra j x).map fun r => (r, S)
  | _ => none
noncomputable def idxK {κ : Type} [DecidableEq κ] (k : κ) : List κ → Option Nat
  | [] => none
  | j :: ks => if j = k then some 0 else (idxK k ks).map (· + 1)
noncomputable def nidx (n : Nd) (k : D) : Option (Option Nat) := match n with
  | .dK ks => (k.key).map fun k => idxK k ks
  | .dT ks => match k with
    | .tup ds => (keysD ds).map fun k => idxK k ks
    | _ => none
  | _ => none
noncomputable def got2 : Option SV → Option (Option R)
  | none => some none
  | some (.dat d) => some (some (.d d))
  | some (.cell c) => some (some (.val (.cell c)))
  | some (.node _ _) => none
noncomputable def dgX (ro : R) (k : D) (S : Sto) : SV → Option (Option R)
  | .node n xs => (nidx n k).bind fun oj => match oj with
    | none => some none
    | some j => (xs[j]?).bind fun y => (kidR ro j y).map some
  | .dat d => ((SV.dat d).dget S k).bind got2
  | .cell c => ((SV.cell c).dget S k).bind got2
noncomputable def dgetR (ro : R) (k : D) (S : Sto) : Option (Option R) := (ro.sv S).bind fun x => dgX ro k S x
noncomputable def gIxD : G2 := fun ra rb S => (rb.peek S).bind fun k => (dgetR ra k S).bind fun o => o.map fun r => (r, S)
section
variable {K : PySem.W.Frag} {S : Sto} {σ : Sl} {H Φ : Hp} {A F G T U : List Addr} {v x y : V} {r ra rb : R}
theorem atI_rps {H : Hp} {vs : List V} {ds : List D} {i : Int} {d : D} (h : Rps K H vs ds) (e : atI ds i = some d) : ∃ v, atI vs i = some v ∧ Rp K H v d := by
  unfold atI at e ⊢
  rw [h.length]
  cases ej : ixN ds.length i with
  | none => rw [ej] at e; cases e
  | some j =>
    rw [ej] at e
    exact h.get' e
theorem stay2 : Step (T ++ (U ++ F)) G H Φ A ([] ++ F) G H Φ A := ⟨fun _ _ e _ => e, fun _ _ e => e, fun _ _ e => .inl e, fun b hb => .inl (by simp only [List.nil_append] at hb; simp [hb]), fun _ h => .inl h, fun _ h => h, Pfx.refl⟩
theorem At.snoc {H : Hp} {v0 : V} {p : List Nat} {a : Addr} {n : Nd} {vs : List V} {k : Nat} {u : V} (h : At H v0 p (.ref a)) (e : H a = some (n.ho vs)) (f : n.fits vs.length) (g : vs[k]? = some u) : At H v0 (p ++ [k]) u := by
  generalize hw : (V.ref a) = w at h
  induction h with
  | nil => subst hw; exact .cons e f g .nil
  | cons e1 f1 g1 _ ih => exact .cons e1 f1 g1 (ih hw)
theorem og_ixS : OpG K (rIx K) gIxS := by
  intro S σ H Φ A F G x y ra rb T U st rx ry nd rz S' e Q q
  unfold gIxS at e
  cases ek : rb.peek S with
  | none => rw [ek] at e; cases e
  | some k =>
    rw [ek] at e
    have e : (intOf k).bind _ = some (rz, S') := e
    cases ei : intOf k with
    | none => rw [ei] at e; cases e
    | some i =>
      rw [ei] at e
      cases intOf_some ei
      have hy : y = .int i := by cases ry.rp st ek; rfl
      subst hy
      cases ex : ra.sv S with
      | none => rw [ex] at e; cases e
      | some a =>
        rw [ex] at e
        obtain ⟨Ua, qa, hUa⟩ := rx.rs st ex
        cases a with
        | cell c => cases e
        | dat d =>
          cases qa with
          | dat qa =>
            cases d <;> try cases e
            · -- a text
              rename_i z
              have e : (if z.length ≤ 1000000 then (atI z.cps.toList i).map fun c => (R.d (.str ⟨#[c]⟩), S) else none) = some (rz, S') := e
              by_cases hl : z.length ≤ 1000000
              · rw [if_pos hl] at e
                cases ec : atI z.cps.toList i with
                | none => rw [ec] at e; cases e
                | some c =>
                  rw [ec] at e; cases e
                  cases qa
                  exact .inr (.inr ⟨z, i, c, rfl, rfl, k1000000 hl, ec, q _ H Φ A [] F G stay2 st (RS.dat (.str _)) (by simpa using st.nd) .refl⟩)
              · rw [if_neg hl] at e; cases e
            · rename_i ds
              have e : (atI ds i).map (fun d => (R.d d, S)) = some (rz, S') := e
              cases ed : atI ds i with
              | none => rw [ed] at e; cases e
              | some d =>
                rw [ed] at e; cases e
                cases qa with
                | lst rd rr =>
                  obtain ⟨u, eu, ru⟩ := atI_rps rr ed
                  exact .inl ⟨_, _, i, u, rfl, rfl, .inl (.inl (st.le _ _ rd)), eu, q _ H Φ A [] F G stay2 st (RS.dat ru) (by simpa using st.nd) .refl⟩
            · rename_i ds
              have e : (atI ds i).map (fun d => (R.d d, S)) = some (rz, S') := e
              cases ed : atI ds i with
              | none => rw [ed] at e; cases e
              | some d =>
                rw [ed] at e; cases e
                cases qa with
                | tup rd rr =>
                  obtain ⟨u, eu, ru⟩ := atI_rps rr ed
                  exact .inr (.inl ⟨_, _, i, u, rfl, rfl, .inl (.inl (st.le _ _ rd)), eu, q _ H Φ A [] F G stay2 st (RS.dat ru) (by simpa using st.nd) .refl⟩)
            · rename_i ds
              have e : (atI ds i).map (fun d => (R.d d, S)) = some (rz, S') := e
              cases ed : atI ds i with
              | none => rw [ed] at e; cases e
              | some d =>
                rw [ed] at e; cases e
                cases qa with
                | kt rd rr =>
                  obtain ⟨u, eu, ru⟩ := atI_rps rr ed
                  exact .inr (.inl ⟨_, _, i, u, rfl, rfl, sqT_mono st.le rd, eu, q _ H Φ A [] F G stay2 st (RS.dat ru) (by simpa using st.nd) .refl⟩)
        | node n xs =>
          cases n <;> try cases e
          have e : (ixN xs.length i).bind (fun j => (xs[j]?).bind fun x => (kidR ra j x).map fun r => (r, S)) = some (rz, S') := e
          cases ej : ixN xs.length i with
          | none => rw [ej] at e; cases e
          | some j =>
            rw [ej] at e
            have e : (xs[j]?).bind (fun x => (kidR ra j x).map fun r => (r, S)) = some (rz, S') := e
            cases exj : xs[j]? with
            | none => rw [exj] at e; cases e
            | some xj =>
              rw [exj] at e
              have e : (kidR ra j xj).map (fun r => (r, S)) = some (rz, S') := e
              cases qa with
              | node ea f pa qs =>
                rename_i a vs Fs
                obtain ⟨u, E1, Ei, E2, gu, eE, qu, _⟩ := RSs.at qs exj
                have eu : atI vs i = some u := by
                  unfold atI
                  rw [qs.length, ej]
                  exact gu
                refine .inl ⟨_, _, i, u, rfl, rfl, .inl (.inl ea), eu, ?_⟩
                cases xj with
                | dat d =>
                  cases e
                  cases qu with
                  | dat qu => exact q _ H Φ A [] F G stay2 st (RS.dat qu) (by simpa using st.nd) .refl
                | cell c =>
                  cases e
                  cases qu with
                  | cell qu => exact q _ H Φ A [] F G stay2 st (RS.cell qu) (by simpa using st.nd) .refl
                | node m ys =>
                  cases ra with
                  | val z => cases e
                  | bor i0 p =>
                    cases e
                    obtain ⟨rfl, v0, e0, hp, hat⟩ := rx
                    have hat0 := hat _ (show S.sub i0 p = some (.node .lst xs) from ex)
                    refine q _ H Φ A [] F G stay2 st ⟨rfl, v0, e0, fun z => by simp at z, fun z hz => ?_⟩ (by simpa using st.nd) .refl
                    exact hat0.snoc ea f gu
theorem dget_key {k : D} (rk : Rp K H y k) : ∀ (a : Addr) (ds : List D), y = .ref a → k = .tup ds → ∃ vs, H a = some (.tup vs) ∧ Rps K H vs ds := fun a ds e1 e2 => by
  subst e1 e2
  cases rk with
  | tup q r => exact ⟨_, q, r⟩
theorem idx_val {κ : Type} [DecidableEq κ] {k : κ} : ∀ {ks : List κ} {vs : List V}, ks.length = vs.length → (idxK k ks = none → valV (ks.zip vs) k = none) ∧ ∀ j, idxK k ks = some j → valV (ks.zip vs) k = vs[j]?
  | [], _, _ => ⟨fun _ => rfl, fun j h => (by cases h)⟩
  | i :: ks, v :: vs, hl => by
    have ih := idx_val (k := k) (ks := ks) (vs := vs) (by simpa using hl)
    rw [idxK, List.zip_cons_cons]
    by_cases e : i = k
    · rw [if_pos e]
      exact ⟨fun h => (by cases h), fun j h => (by cases h; rw [valV_pos e]; rfl)⟩
    · rw [if_neg e, valV_neg (p := (i, v)) e]
      cases ei : idxK k ks with
      | none => exact ⟨fun _ => ih.1 ei, fun j h => (by cases h)⟩
      | some j => exact ⟨fun h => (by cases h), fun j' h => (by cases h; rw [ih.2 j ei]; rfl)⟩
  | _ :: _, [], hl => by simp at hl
theorem dgetR_ok {ro : R} {k : D} {o : Option R} (st : Stands K S σ H Φ A F G) (rx : RV K Φ H A S σ v ro T) (rk : Rp K H y k) (e : dgetR ro k S = some o) :
    ∃ a ov, v = .ref a ∧ DGet H a y ov ∧ ((o = none ∧ ov = none) ∨ ∃ r w, o = some r ∧ ov = some w ∧ RV K Φ H A S σ w r []) := by
  unfold dgetR at e
  cases ex : ro.sv S with
  | none => rw [ex] at e; cases e
  | some x =>
    rw [ex, Option.bind_some] at e
    obtain ⟨Ua, qa, hUa⟩ := rx.rs st ex
    have gen : ∀ {o2}, x.dget S k = some o2 → got2 o2 = some o → ∃ a ov, v = .ref a ∧ DGet H a y ov ∧ ((o = none ∧ ov = none) ∨ ∃ r w, o = some r ∧ ov = some w ∧ RV K Φ H A S σ w r []) := fun {o2} eg e => by
      obtain ⟨a, ov, hv, dg, cs⟩ := dget_ok st qa rk (dget_key rk) eg
      refine ⟨a, ov, hv, dg, ?_⟩
      rcases cs with ⟨rfl, rfl⟩ | ⟨z, w, U', rfl, rfl, q, _⟩
      · cases e; exact .inl ⟨rfl, rfl⟩
      · cases z with
        | dat d => cases e; cases q with | dat q => exact .inr ⟨_, w, rfl, rfl, RS.dat q⟩
        | cell c => cases e; cases q with | cell q => exact .inr ⟨_, _, rfl, rfl, RS.cell q⟩
        | node n xs => cases e
    cases x with
    | dat d =>
      cases eg : (SV.dat d).dget S k with
      | none => simp only [dgX, eg] at e; cases e
      | some o2 => simp only [dgX, eg, Option.bind_some] at e; exact gen eg e
    | cell c =>
      cases eg : (SV.cell c).dget S k with
      | none => simp only [dgX, eg] at e; cases e
      | some o2 => simp only [dgX, eg, Option.bind_some] at e; exact gen eg e
    | node n xs =>
      dsimp only [dgX] at e
      cases qa with
      | @node a _ vs _ Fx ea f pa qs =>
        have hl := f.1
        have key : ∀ oj, nidx n k = some oj → ∃ ov, DGet H a y ov ∧ (oj = none → ov = none) ∧ ∀ j, oj = some j → ov = vs[j]? := fun oj hj => by
          cases n with
          | lst => cases hj
          | ins => cases hj
          | dK ks =>
            have hj : (k.key).map (fun k => idxK k ks) = some oj := hj
            cases ek : k.key with
            | none => rw [ek] at hj; cases hj
            | some j =>
              rw [ek] at hj; cases hj
              have ey := key_rp rk ek
              subst ey
              obtain ⟨l1, l2⟩ := idx_val (k := j) (ks := ks) (vs := vs) hl
              exact ⟨_, .inl ⟨_, _, .inl ea, rfl, rfl⟩, l1, l2⟩
          | dT ks =>
            cases k <;> try cases hj
            rename_i ds
            have hj : (keysD ds).map (fun k => idxK k ks) = some oj := hj
            cases ek : keysD ds with
            | none => rw [ek] at hj; cases hj
            | some j =>
              rw [ek] at hj; cases hj
              cases rk with
              | tup sq rr =>
                have ew := keys_rps rr ek
                subst ew
                obtain ⟨l1, l2⟩ := idx_val (k := j) (ks := ks) (vs := vs) hl
                exact ⟨_, .inr ⟨_, _, _, .inl ea, rfl, sq, rfl⟩, l1, l2⟩
        cases ej : nidx n k with
        | none => rw [ej] at e; cases e
        | some oj =>
          rw [ej, Option.bind_some] at e
          obtain ⟨ov, dg, k1, k2⟩ := key oj ej
          refine ⟨a, ov, rfl, dg, ?_⟩
          cases oj with
          | none => cases e; exact .inl ⟨rfl, k1 rfl⟩
          | some j =>
            dsimp only at e
            cases exj : xs[j]? with
            | none => rw [exj] at e; cases e
            | some xj =>
              rw [exj, Option.bind_some] at e
              obtain ⟨u, E1, Ei, E2, gu, eE, qu, _⟩ := RSs.at qs exj
              have hov := (k2 j rfl).trans gu
              subst hov
              cases xj with
              | dat d => cases e; cases qu with | dat qu => exact .inr ⟨_, u, rfl, rfl, RS.dat qu⟩
              | cell c => cases e; cases qu with | cell qu => exact .inr ⟨_, _, rfl, rfl, RS.cell qu⟩
              | node m ys =>
                cases ro with
                | val z => cases e
                | bor i0 p =>
                  cases e
                  obtain ⟨rfl, v0, e0, hp, hat⟩ := rx
                  have hat0 := hat _ (show S.sub i0 p = some (.node n xs) from ex)
                  exact .inr ⟨_, u, rfl, rfl, rfl, v0, e0, fun z => by simp at z, fun z hz => hat0.snoc ea f gu⟩
noncomputable def rIxDict : R2 := fun x y H Q => ∃ a v, x = .ref a ∧ DGet H a y (some v) ∧ Q v H
theorem og_ixD : OpG K rIxDict gIxD := by
  intro S σ H Φ A F G x y ra rb T U st rx ry nd rz S' e Q q
  unfold gIxD at e
  cases ek : rb.peek S with
  | none => rw [ek] at e; cases e
  | some k =>
    rw [ek, Option.bind_some] at e
    cases eg : dgetR ra k S with
    | none => rw [eg] at e; cases e
    | some o =>
      rw [eg, Option.bind_some] at e
      obtain ⟨a, ov, rfl, dg, cs⟩ := dgetR_ok st rx (ry.rp st ek) eg
      rcases cs with ⟨rfl, rfl⟩ | ⟨r, w, rfl, rfl, rv⟩
      · cases e
      · cases e
        exact ⟨a, w, rfl, dg, q w H Φ A [] F G stay2 st rv (by simpa using st.nd) .refl⟩
end
theorem ix_dict {X : Cx} (hu : X.A.units + 1 < cLine) : IxR X rIxDict := by
  rintro value slice pins s σ H x y v u Q I rx ry ⟨a, w, rfl, g, q⟩ hs
  cases rx
  exact tail_any (dict_typeIs I g) PySem.F.slot_dict_getitem.lookup (d_getItem hu I g ry fun w' s3 I3 rw' => ⟨w, H, I3, rw', q⟩) hs
noncomputable def rIxP (K : PySem.W.Frag) : R2 := fun x y H Q => rIx K x y H Q ∨ rIxDict x y H Q
noncomputable def gIx : G2 := fun ra rb S => (gIxS ra rb S).orElse fun _ => gIxD ra rb S
section
variable {X : Cx} {W : WX} {a b c e : Expr} {pos : Pos} {ta tb tc te : TE} {fa fb fc fe : FE}
theorem de_ix (hu : X.A.units + 1 < cLine) (ha : DE X W a ta fa) (hb : DE X W b tb fb) (hs : PlainIx b := by intro _ _; rfl) : DE X W (.Subscript a b pos) (tOp (rIxP X.K) ta tb) (fBin gIx fa fb) :=
  ⟨pe_ix (ix_seq.or (ix_dict hu)) ha.pe hb.pe hs, ev_bin (og_ixS.or og_ixD) ha.ev hb.ev⟩
end
inductive DO (X : Cx) (W : WX) : Option Expr → TO → Option FE → Prop where
  | non : DO X W none tNoPart none
  | som {e : Expr} {te : TE} {fe : FE} (h : DE X W e te fe) : DO X W (some e) (tPart te) (some fe)
noncomputable def fPart : Option FE → Sto → Option (Out (Option Int))
  | none => fun S => some (.ok none S)
  | some fe => bindE fe fun r S => ((r.peek S).bind intOf).map fun i => .ok (some i) S
noncomputable def cutD {α : Type} (xs : List α) (lo hi : Option Int) : List α := (xs.drop (HT.sIx xs.length 0 lo)).take (HT.sIx xs.length xs.length hi - HT.sIx xs.length 0 lo)
theorem cut_rps {K : PySem.W.Frag} {H : Hp} {vs : List V} {ds : List D} (h : Rps K H vs ds) (lo hi : Option Int) : Rps K H (cutV vs lo hi) (cutD ds lo hi) := by
  unfold cutV cutD
  rw [h.length]
  exact (h.drop _).take _
noncomputable def gSl (ra : R) (lo hi : Option Int) (S : Sto) : Option (R × Sto) := match ra.its S with
  | some (false, ds) => some (.val (.own ((cutD ds lo hi).map SV.dat)), S)
  | some (true, ds) => some (.d (.tup (cutD ds lo hi)), S)
  | none => match ra.sv S with
    | some (.dat (.str x)) => if x.length ≤ 1000000 then some (.d (.str (L2.cutS x lo hi)), S) else none
    | _ => none
noncomputable def fSl (fa : FE) (lo hi : Option FE) : FE := bindE fa fun ra => bindE (fPart lo) fun l => bindE (fPart hi) fun h S => (gSl ra l h S).map fun z => .ok z.1 z.2
end L3
namespace L3
open PySem PySem.Spec PyProof.Rows L2
section
variable {X : Cx} {W : WX} {a : Expr} {lo hi : Option Expr} {pos p2 : Pos} {ta : TE} {fa : FE} {tl th : TO} {fl fh : Option FE}
noncomputable def OEV (K : PySem.W.Frag) (W : WX) (t : TO) (f : Sto → Option (Out (Option Int))) : Prop := ∀ S σ H Φ A F G, Stands K S σ H Φ A F G → ∀ out, f S = some out → ∀ Q : Option Int → Hp → Prop,
  (match out with
    | .ok o S' => ∀ H' Φ' A' F' G', Step F G H Φ A F' G' H' Φ' A' → Stands K S' σ H' Φ' A' F' G' → Frz S S' → Q o H'
    | .exc e S' => XP K W S σ H Φ A F G e S') → t σ H Q
theorem ev_part {K : PySem.W.Frag} {te : TE} {fe : FE} (h : EV K W te fe) : OEV K W (tPart te) (fPart (some fe)) := fun S σ H Φ A F G st out ho Q q => by
  refine run1 (t := te) h st ho (fun e S' eo => by subst eo; exact q) fun r S1 v H1 Φ1 A1 T F1 G1 sp st1 rv nd fz h1 => ?_
  cases ep : r.peek S1 with
  | none => rw [ep] at h1; cases h1
  | some d =>
    rw [ep] at h1
    have h1 : (intOf d).map (fun i => Out.ok (some i) S1) = some out := h1
    cases ei : intOf d with
    | none => rw [ei] at h1; cases h1
    | some i =>
      rw [ei] at h1; cases h1
      cases intOf_some ei
      have hv : v = .int i := by cases rv.rp st1 ep; rfl
      exact ⟨i, hv, q H1 Φ1 A1 F1 G1 sp.drop st1 fz⟩
theorem DO.pe {e : Option Expr} {t : TO} {f : Option FE} (h : DO X W e t f) : PO X e t := by
  cases h with
  | non => exact po_none
  | som h => exact po_some h.pe
theorem DO.ev {e : Option Expr} {t : TO} {f : Option FE} (h : DO X W e t f) : OEV X.K W t (fPart f) := by
  cases h with
  | non => exact fun S σ H Φ A F G st out ho Q q => by cases ho; exact q H Φ A F G .refl st .refl
  | som h => exact ev_part h.ev
noncomputable def rSlP (K : PySem.W.Frag) : V → Option Int → Option Int → Hp → VK → Prop := fun x lo hi H Q => rSlL K x lo hi H Q ∨ (rSlA K x lo hi H Q ∨ ∃ z, x = .str z ∧ z.length ≤ sizeLine ∧ Q (.str (L2.cutS z lo hi)) H)
theorem slR_P : SlR X (rSlP X.K) := sl_list.or (sl_tupA.or fun pins s σ H x v vl vu lo hi sl Q I rx hs pl pu ⟨z, hx, hz, q⟩ => sl_str pins s σ H x v vl vu lo hi sl Q I rx hs pl pu ⟨z, hx, hz, q⟩)
theorem cut_all {α : Type} {ds : List α} {lo hi : Option Int} (h : HT.sIx ds.length 0 lo = 0 ∧ HT.sIx ds.length ds.length hi = ds.length) : cutD ds lo hi = ds := by
  unfold cutD
  rw [h.1, h.2, List.drop_zero, Nat.sub_zero, List.take_length]
theorem ev_sl {K : PySem.W.Frag} (ha : EV K W ta fa) (hl : OEV K W tl (fPart fl)) (hh : OEV K W th (fPart fh)) : EV K W (tSl (rSlP K) ta tl th) (fSl fa fl fh) := fun S σ H Φ A F G st out ho Q q => by
  refine run1 (t := ta) ha st ho q.x fun ra S1 x H1 Φ1 A1 T F1 G1 sp st1 rv nd fz h1 => ?_
  -- the two ends
  unfold bindE at h1
  cases e2 : fPart fl S1 with
  | none => rw [e2] at h1; cases h1
  | some o2 =>
    rw [e2] at h1
    cases o2 with
    | exc ex S2 => cases h1; exact hl S1 σ H1 Φ1 A1 F1 G1 st1 _ e2 _ ((q.x ex S2 rfl).at sp fz)
    | ok l S2 =>
      refine hl S1 σ H1 Φ1 A1 F1 G1 st1 _ e2 _ fun H2 Φ2 A2 F2 G2 sp2 st2 fz2 => ?_
      dsimp only at h1
      have rv2 := RV.step st1 rv nd sp2 fz2
      have nd2 : (T ++ (F2 ++ G2)).Nodup := sp2.apart (fun b hb => (rv.there b hb).1.ne) nd st2.nd
      have s02 : Step F G H Φ A (T ++ F2) G2 H2 Φ2 A2 := Step.trans (T1 := []) sp sp2
      cases e3 : fPart fh S2 with
      | none => rw [e3] at h1; cases h1
      | some o3 =>
        rw [e3] at h1
        cases o3 with
        | exc ex S3 => cases h1; exact hh S2 σ H2 Φ2 A2 F2 G2 st2 _ e3 _ ((q.x ex S3 rfl).at s02 (fz.trans fz2))
        | ok u S3 =>
          refine hh S2 σ H2 Φ2 A2 F2 G2 st2 _ e3 _ fun H3 Φ3 A3 F3 G3 sp3 st3 fz3 => ?_
          dsimp only at h1
          have rv3 := RV.step st2 rv2 nd2 sp3 fz3
          have nd3 : (T ++ (F3 ++ G3)).Nodup := sp3.apart (fun b hb => (rv2.there b hb).1.ne) nd2 st3.nd
          have s03 : Step F G H Φ A (T ++ F3) G3 H3 Φ3 A3 := Step.trans (T1 := []) s02 sp3
          have f03 := (fz.trans fz2).trans fz3
          cases eg : gSl ra l u S3 with
          | none => rw [eg] at h1; cases h1
          | some z =>
            obtain ⟨rz, S4⟩ := z
            rw [eg] at h1; cases h1
            unfold gSl at eg
            cases ei : ra.its S3 with
            | some td =>
              obtain ⟨t, ds⟩ := td
              rw [ei] at eg
              obtain ⟨Φ4, a, vs, rfl, sq, rr, sp4, st4⟩ := its_ok st3 rv3 nd3 ei
              have s04 : Step F G H Φ A F3 G3 H3 Φ4 A3 := s03.trans0 sp4
              have fin := cut_rps rr l u
              cases t with
              | false =>
                cases eg
                refine .inl ⟨a, vs, rfl, sq, fun p hp => ?_⟩
                obtain ⟨n1, n2, n3, n4⟩ := new_list st4 (rss_dat (H := H3) (A := A3) fin) (by simpa using st4.nd) hp
                exact q (.ref p) _ _ _ [p] F3 G3 (s04.trans0 n1) n2 n3 n4 f03
              | true =>
                cases eg
                refine .inr (.inl ⟨a, vs, rfl, sq, fun hw => ?_, fun hw p hp => ?_⟩)
                · rw [rr.length] at hw
                  rw [show cutD ds l u = ds from cut_all hw] at q
                  have d1 := rv3.dat st3 (its_tup ei)
                  exact q _ H3 Φ3 A3 [] F3 G3 s03.drop st3 (RS.dat d1) (by simpa using st3.nd) f03
                · obtain ⟨n1, n2, n3⟩ := new_frz (o := .tup (cutV vs l u)) st4 hp
                  exact q (.ref p) _ _ _ [] F3 G3 (s04.trans0 n1) n2 (RS.dat (.tup upd_same (fin.mono n3))) (by simpa using n2.nd) f03
            | none =>
              rw [ei] at eg
              dsimp only at eg
              cases ex : ra.sv S3 with
              | none => rw [ex] at eg; cases eg
              | some y =>
                rw [ex] at eg
                cases y with
                | node n xs => cases eg
                | cell c => cases eg
                | dat d =>
                  cases d <;> try cases eg
                  rename_i z
                  have eg : (if z.length ≤ 1000000 then some (R.d (.str (L2.cutS z l u)), S3) else none) = some (rz, S4) := eg
                  by_cases hz : z.length ≤ 1000000
                  · rw [if_pos hz] at eg; cases eg
                    have hx : x = .str z := by cases rv3.dat st3 ex; rfl
                    exact .inr (.inr ⟨z, hx, k1000000 hz, q _ H3 Φ3 A3 [] F3 G3 s03.drop st3 (RS.dat (.str _)) (by simpa using st3.nd) f03⟩)
                  · rw [if_neg hz] at eg; cases eg
theorem de_sl (ha : DE X W a ta fa) (hl : DO X W lo tl fl) (hh : DO X W hi th fh) : DE X W (.Subscript a (.Slice lo hi none p2) pos) (tSl (rSlP X.K) ta tl th) (fSl fa fl fh) := ⟨pe_slice slR_P ha.pe hl.pe hh.pe, ev_sl ha.ev hl.ev hh.ev⟩
end
noncomputable abbrev GB := List R → Sto → Option (R × Sto)
noncomputable def BOk (K : PySem.W.Frag) (r : List V → Hp → VK → Prop) (g : GB) : Prop := ∀ S σ H Φ A F G vs rs T, Stands K S σ H Φ A F G → RVs K Φ H A S σ vs rs T → (T ++ (F ++ G)).Nodup → ∀ rz S', g rs S = some (rz, S') →
  ∀ Q, (∀ v H' Φ' A' V F' G', Step (T ++ F) G H Φ A (V ++ F') G' H' Φ' A' → Stands K S' σ H' Φ' A' F' G' → RV K Φ' H' A' S' σ v rz V → (V ++ (F' ++ G')).Nodup → Frz S S' → Q v H') → r vs H Q
noncomputable def fB (g : GB) (fa : FA) : FE := bindE fa fun rs S => (g rs S).map fun z => .ok z.1 z.2
section
variable {X : Cx} {W : WX} {e : Expr} {es : List Expr} {x : Str} {p pos : Pos} {t : TA} {fa : FA} {id : String} {r : List V → Hp → VK → Prop} {g : GB}
theorem ev_B {K : PySem.W.Frag} (hb : BOk K r g) (ha : EVA K W t fa) : EV K W (tCB r t) (fB g fa) := fun S σ H Φ A F G st out ho Q q => by
  refine runA (t := t) ha st ho q.x fun rs S1 vs H1 Φ1 A1 T F1 G1 sp st1 rv nd fz h1 => ?_
  cases eg : g rs S1 with
  | none => rw [eg] at h1; cases h1
  | some z =>
    obtain ⟨rz, S2⟩ := z
    rw [eg] at h1; cases h1
    exact hb S1 σ H1 Φ1 A1 F1 G1 vs rs T st1 rv nd rz S2 eg Q fun v H' Φ' A' V F' G' s2 st2 rv2 nd2 f2 => q v H' Φ' A' V F' G' (Step.trans (T := []) (T1 := V) (F1 := T ++ F1) sp s2) st2 rv2 nd2 (fz.trans f2)
theorem de_B (hc : CallR X (.builtin id) r) (hb : BOk X.K r g) (hv : bootBuiltins x = some (.builtin id)) (hm : X.mg x = none) (ha : DA X W (e :: es) t fa) (hg : Gl X x := by rfl) (hn : x ≠ "__name__" := by decide) (hdb : (x == ("__debug__" : Str)) = false := by decide)
    (he : starEach (e :: es) X.env = (false, eval e X.env) :: starEach es X.env := by rfl) (hpl : (backTo pos (starEach es X.env)).any (·.1) = false := by rfl) : DE X W (.Call (.Name x p) (e :: es) [] pos) (tCB r t) (fB g fa) := ⟨pe_callB hc hg hm hv ha.pe hn hdb he hpl, ev_B hb ha.ev⟩
theorem de_BT {T : String} (hc : CallR X (.type T) r) (hb : BOk X.K r g) (hv : bootBuiltins x = some (.type T)) (hm : X.mg x = none) (ha : DA X W (e :: es) t fa) (hg : Gl X x := by rfl) (hn : x ≠ "__name__" := by decide) (hdb : (x == ("__debug__" : Str)) = false := by decide)
    (he : starEach (e :: es) X.env = (false, eval e X.env) :: starEach es X.env := by rfl) (hpl : (backTo pos (starEach es X.env)).any (·.1) = false := by rfl) : DE X W (.Call (.Name x p) (e :: es) [] pos) (tCB r t) (fB g fa) := ⟨pe_callTy hc hg hm hv ha.pe hn hdb he hpl, ev_B hb ha.ev⟩
end
noncomputable def peeksR : List R → Sto → Option (List D)
  | [], _ => some []
  | r :: rs, S => (r.peek S).bind fun d => (peeksR rs S).map fun ds => d :: ds
noncomputable def gD (g : List D → Option D) : GB := fun rs S => (peeksR rs S).bind fun ds => (g ds).map fun d => (.d d, S)
theorem peeksR_ok {K : PySem.W.Frag} {S : Sto} {σ : Sl} {H Φ : Hp} {A F G : List Addr} (st : Stands K S σ H Φ A F G) : ∀ {vs : List V} {rs : List R} {T : List Addr} {ds : List D}, RVs K Φ H A S σ vs rs T → peeksR rs S = some ds → Rps K H vs ds
  | _, _, _, _, .nil, e => by rw [peeksR] at e; cases e; exact .nil
  | _, _, _, ds, .cons (r := r) (rs := rs) q qs, e => by
    rw [peeksR] at e
    cases e1 : r.peek S with
    | none => rw [e1] at e; cases e
    | some d =>
      cases e2 : peeksR rs S with
      | none => rw [e1, e2] at e; cases e
      | some es => rw [e1, e2] at e; cases e; exact .cons (q.rp st e1) (peeksR_ok st qs e2)
theorem bok_D {K : PySem.W.Frag} {r : List V → Hp → VK → Prop} {g : List D → Option D} (h : ∀ H vs ds z, Rps K H vs ds → g ds = some z → ∀ Q, (∀ v, (∀ H', Rp K H' v z) → Q v H) → r vs H Q) : BOk K r (gD g) := by
  intro S σ H Φ A F G vs rs T st rv nd rz S' e Q q
  unfold gD at e
  cases e1 : peeksR rs S with
  | none => rw [e1] at e; cases e
  | some ds =>
    rw [e1] at e
    have e : (g ds).map (fun d => (R.d d, S)) = some (rz, S') := e
    cases e2 : g ds with
    | none => rw [e2] at e; cases e
    | some z =>
      rw [e2] at e; cases e
      exact h H vs ds z (peeksR_ok st rv e1) e2 Q fun v hv => q v H Φ A [] F G ⟨fun _ _ e _ => e, fun _ _ e => e, fun _ _ e => .inl e, fun b hb => .inl (by simp only [List.nil_append] at hb; simp [hb]), fun _ h => .inl h, fun _ h => h, Pfx.refl⟩ st (RS.dat (hv _)) (by simpa using st.nd) .refl
noncomputable def lenD : List D → Option D
  | [.lst ds] => some (.int ds.length)
  | [.tup ds] => some (.int ds.length)
  | [.kt ds] => some (.int ds.length)
  | [.str x] => if x.length ≤ 1000000 then some (.int x.length) else none
  | _ => none
theorem bok_len {K : PySem.W.Frag} : BOk K (fun xs H Q => ∃ x n, xs = [x] ∧ LenV K x H n ∧ Q (.int n) H) (gD lenD) := bok_D fun H vs ds z rr e Q q => by
  unfold lenD at e
  split at e
  · cases e
    cases rr with
    | cons r rs =>
      cases rs
      cases r with
      | lst rd r2 => rw [← r2.length] at q; exact ⟨_, _, rfl, .inl ⟨_, .inl (.inl rd), rfl⟩, q _ fun H' => .int _⟩
  · cases e
    cases rr with
    | cons r rs =>
      cases rs
      cases r with
      | tup rd r2 => rw [← r2.length] at q; exact ⟨_, _, rfl, .inr ⟨_, .inl (.inl rd), rfl⟩, q _ fun H' => .int _⟩
  · cases e
    cases rr with
    | cons r rs =>
      cases rs
      cases r with
      | kt rd r2 => rw [← r2.length] at q; exact ⟨_, _, rfl, .inr ⟨_, rd, rfl⟩, q _ fun H' => .int _⟩
  · split at e
    · rename_i hl
      cases e
      cases rr with
      | cons r rs =>
        cases rs
        cases r with
        | str y => exact ⟨_, _, rfl, ⟨k1000000 hl, rfl⟩, q _ fun H' => .int _⟩
    · cases e
  · cases e
noncomputable def max2D : List D → Option D
  | [.int i, .int j] => some (.int (if j > i then j else i))
  | _ => none
noncomputable def min2D : List D → Option D
  | [.int i, .int j] => some (.int (if j < i then j else i))
  | _ => none
theorem bok_min2 {K : PySem.W.Frag} : BOk K (fun xs H Q => ∃ i j, xs = [.int i, .int j] ∧ Q (.int (if j < i then j else i)) H) (gD min2D) := bok_D fun H vs ds z rr e Q q => by
  unfold min2D at e
  split at e
  · cases e
    cases rr with
    | cons r rs => cases rs with
      | cons r' rs => cases rs; cases r; cases r'; exact ⟨_, _, rfl, q _ fun H' => .int _⟩
  · cases e
noncomputable def intsD : List D → Option (List Int)
  | [] => some []
  | .int i :: r => (intsD r).map fun is => i :: is
  | _ :: _ => none
noncomputable def sumD : List D → Option D
  | [.lst ds] => (intsD ds).map fun is => .int is.sum
  | _ => none
noncomputable def gTupOf : GB := fun rs S => match rs with
  | [r] => match r.its S with
    | some (_, ds) => some (.d (.tup ds), S)
    | none => none
  | _ => none
noncomputable def gLstOf : GB := fun rs S => match rs with
  | [r] => match r.its S with
    | some (_, ds) => some (.val (.own (ds.map SV.dat)), S)
    | none => none
  | _ => none
end L3
namespace L3
open PySem PySem.Spec PyProof.Rows L2
section
variable {X : Cx} {W : WX} {tg e : Expr} {es : List Expr} {p pos : Pos} {te : TE} {t : TA} {fe : FE} {fa : FA}
theorem walk_L {K : PySem.W.Frag} {Φ0 : Hp} {a : Addr} {vs : List V} {ds : List D} (sq : SqL K Φ0 a vs) (rr : Rps K Φ0 vs ds) : Walk K Φ0 (Itl K a) ds := fun S σ H Φ A F G st le i => by
  have s1 : SqL K H a vs := sqL_mono st.le (sqL_mono le sq)
  refine ⟨fun d ed => ?_, fun ei => ⟨vs, s1, by rw [rr.length, ei]; exact Nat.le_refl _⟩⟩
  obtain ⟨v, ev, rv⟩ := rr.get' ed
  refine ⟨⟨vs, v, s1, ev⟩, fun x H' hy => ?_⟩
  obtain ⟨rfl, hx⟩ := hy
  have ex := hx vs (s1)
  rw [ev] at ex; cases ex
  exact ⟨Φ, .refl, st, rv.mono le⟩
theorem walk_T {K : PySem.W.Frag} {Φ0 : Hp} {a : Addr} {vs : List V} {ds : List D} (sq : SqT K Φ0 a vs) (rr : Rps K Φ0 vs ds) : Walk K Φ0 (Itt K a) ds := fun S σ H Φ A F G st le i => by
  have s1 : SqT K H a vs := sqT_mono st.le (sqT_mono le sq)
  refine ⟨fun d ed => ?_, fun ei => ⟨vs, s1, by rw [rr.length, ei]; exact Nat.le_refl _⟩⟩
  obtain ⟨v, ev, rv⟩ := rr.get' ed
  refine ⟨⟨vs, v, s1, ev⟩, fun x H' hy => ?_⟩
  obtain ⟨rfl, hx⟩ := hy
  have ex := hx vs s1
  rw [ev] at ex; cases ex
  exact ⟨Φ, .refl, st, rv.mono le⟩
noncomputable def signs (x : Str) : List D := x.cps.toList.map fun c => .str ⟨#[c]⟩
theorem walk_S {K : PySem.W.Frag} {Φ0 : Hp} {x : Str} : Walk K Φ0 (Its x) (signs x) := fun S σ H Φ A F G st le i => by
  have hl : (signs x).length = x.cps.size := by unfold signs; simp
  refine ⟨fun d ed => ?_, fun ei => by rw [hl] at ei; exact Nat.le_of_eq ei.symm⟩
  have hi : i < x.cps.size := by rw [← hl]; exact (List.getElem?_eq_some_iff.mp ed).1
  refine ⟨hi, fun y H' hy => ?_⟩
  obtain ⟨rfl, c, ec, rfl⟩ := hy
  have ed2 : d = .str ⟨#[c]⟩ := by
    unfold signs at ed
    rw [List.getElem?_map] at ed
    have e3 : x.cps.toList[i]? = some c := by simpa using ec
    rw [e3] at ed
    cases ed; rfl
  subst ed2
  exact ⟨Φ, .refl, st, .str _⟩
noncomputable def keyD : Key → D
  | .inl i => .int i
  | .inr x => .str x
theorem keyD_rp {K : PySem.W.Frag} {H : Hp} {k : Key} : Rp K H (kV k) (keyD k) := by cases k <;> constructor
theorem keyD_rps {K : PySem.W.Frag} {H : Hp} : ∀ k : List Key, Rps K H (k.map kV) (k.map keyD)
  | [] => .nil
  | _ :: k => .cons keyD_rp (keyD_rps k)
theorem zip_at {α β : Type} {ks : List α} {vs : List β} {i : Nat} {k : α} {v : β} (h : (ks.zip vs)[i]? = some (k, v)) : ks[i]? = some k ∧ vs[i]? = some v := List.getElem?_zip_eq_some.mp h
theorem walk_Kk {K : PySem.W.Frag} {Φ0 : Hp} {a : Addr} {o : Obj} {ks : List Key} {vs : List V} (e0 : Φ0 a = some (.frz o (.dK (ks.zip vs)))) (hl : ks.length = vs.length) : Walk K Φ0 (Itk a o (ks.zip vs)) (ks.map keyD) := fun S σ H Φ A F G st le i => by
  have s1 := st.le _ _ (le _ _ e0)
  have lz : (ks.zip vs).length = ks.length := by simp; omega
  refine ⟨fun d ed => ?_, fun ei => ⟨s1, by rw [lz]; simp at ei; omega⟩⟩
  have hi : i < ks.length := by have := (List.getElem?_eq_some_iff.mp ed).1; simpa using this
  refine ⟨⟨s1, by rw [lz]; exact hi⟩, fun x H' ⟨h1, k, v, h2, h3⟩ => ?_⟩
  subst h1 h3
  rw [List.getElem?_map, (zip_at h2).1] at ed
  cases ed
  exact ⟨Φ, .refl, st, keyD_rp⟩
theorem tup_data {K : PySem.W.Frag} {S : Sto} {σ : Sl} {H Φ : Hp} {A F G : List Addr} {q : Addr} {vs : List V} {ds : List D} (st : Stands K S σ H Φ A F G) (e : H q = some (.tup vs)) (r : Rps K Φ vs ds) :
    ∃ Φ', Step F G H Φ A F G H Φ' A ∧ Stands K S σ H Φ' A F G ∧ Rp K Φ' (.ref q) (.tup ds) := by
  cases eq : Φ q with
  | some o =>
    have := st.le _ _ eq
    rw [e] at this; cases this
    exact ⟨Φ, .refl, st, .tup eq r⟩
  | none =>
    have le : Same Φ (upd Φ q (.tup vs)) := upd_same' eq
    have lo : Lo H q := ⟨.inr (.inl ⟨_, e⟩)⟩
    have nq : ∀ b, On H b ∧ Φ b = none → upd Φ q (.tup vs) b = none := fun b hb => by
      have : b ≠ q := fun z => by subst z; exact lo.no hb.1
      rw [upd_ne this]; exact hb.2
    refine ⟨upd Φ q (.tup vs), ⟨fun _ _ h _ => h, le, fun b o h => ?_, fun _ h => .inl h, fun _ h => .inl h, fun _ h => h, Pfx.refl⟩, ⟨fun b o h => ?_, st.ro.frame le Pfx.refl (fun _ _ => rfl) fun b hb => nq b (st.ro.there b hb), st.rc.frame le Pfx.refl (fun _ _ => rfl) fun b hb => nq b (st.rc.there b hb), st.nd⟩, .tup upd_same (r.mono le)⟩
    · by_cases z : b = q
      · subst z; exact .inr (.inr (.inr lo))
      · rw [upd_ne z] at h; exact .inl h
    · by_cases z : b = q
      · subst z; rw [upd_same] at h; cases h; exact e
      · rw [upd_ne z] at h; exact st.le _ _ h
theorem walk_KT {K : PySem.W.Frag} {Φ0 : Hp} {a : Addr} {o : Obj} {ks : List (List Key)} {vs : List V} (e0 : Φ0 a = some (.frz o (.dT (ks.zip vs)))) (hl : ks.length = vs.length) : Walk K Φ0 (Itkt a o (ks.zip vs)) (ks.map fun k => .tup (k.map keyD)) := fun S σ H Φ A F G st le i => by
  have s1 := st.le _ _ (le _ _ e0)
  have lz : (ks.zip vs).length = ks.length := by simp; omega
  refine ⟨fun d ed => ?_, fun ei => ⟨s1, by rw [lz]; simp at ei; omega⟩⟩
  have hi : i < ks.length := by have := (List.getElem?_eq_some_iff.mp ed).1; simpa using this
  refine ⟨⟨s1, by rw [lz]; exact hi⟩, fun x H' ⟨h1, k, v, q, h2, h3, h4⟩ => ?_⟩
  subst h1 h3
  rw [List.getElem?_map, (zip_at h2).1] at ed
  cases ed
  exact tup_data st h4 (keyD_rps k)
noncomputable def wAny (K : PySem.W.Frag) (te : TE) : TI := fun σ H R => te σ H fun x H1 => (∃ a xs, x = .ref a ∧ SqL K H1 a xs ∧ R (Itl K a) H1) ∨ (∃ a xs, x = .ref a ∧ SqT K H1 a xs ∧ R (Itt K a) H1) ∨ (∃ z, x = .str z ∧ R (Its z) H1) ∨
  (∃ d o kvs, x = .ref d ∧ H1 d = some (.frz o (.dK kvs)) ∧ R (Itk d o kvs) H1) ∨ ∃ d o kvs, x = .ref d ∧ H1 d = some (.frz o (.dT kvs)) ∧ R (Itkt d o kvs) H1
theorem pi_any (h : PE X e te) : PI X tg e (wAny X.K te) := ⟨fun pins s σ H R I hw => thn (h.run pins s σ H _ I hw) fun v s1 ⟨x, H1, I1, r1, q1⟩ => by
  rcases q1 with ⟨a, xs, ex, sq, q⟩ | ⟨a, xs, ex, sq, q⟩ | ⟨z, ex, q⟩ | ⟨d, o, kvs, ex, hd, q⟩ | ⟨d, o, kvs, ex, hd, q⟩
  · subst ex
    obtain rfl : v = .ref a := r1
    obtain ⟨its, _, pl, _⟩ := I1.list sq
    exact wpAny_pyIter_list pl.isList (pi_one (tk := s1.toks) I1 _ (turn_list a _) ⟨_, Heap.get?_push_size _ rfl, rfl, rfl⟩ q)
  · subst ex
    obtain rfl : v = .ref a := r1
    obtain ⟨its, _, pl, _⟩ := I1.tuple sq
    exact wpAny_pyIter_tuple (show s1.heap.IsTuple a its.toArray from pl) (pi_one (tk := s1.toks) I1 _ (turn_tuple a _) ⟨_, Heap.get?_push_size _ rfl, rfl, rfl⟩ q)
  · subst ex
    obtain ⟨t, rfl⟩ := r1
    by_cases ha : z.cps.all (· < 128) = true
    · exact wpAny_pyIter_ascii ha (pi_one (tk := s1.toks) I1 _ (turn_str _ z t "str_ascii_iterator" (.inl rfl)) ⟨_, Heap.get?_push_size _ rfl, rfl, rfl⟩ q)
    · exact wpAny_pyIter_wide (by simpa using ha) (pi_one (tk := s1.toks) I1 _ (turn_str _ z t "str_iterator" (.inr rfl)) ⟨_, Heap.get?_push_size _ rfl, rfl, rfl⟩ q)
  · subst ex
    obtain rfl : v = Value.ref d := r1
    obtain ⟨hs, hgd, hx, es, ep, vs, hdt, hsz, kv, hm⟩ := I1.frzK hd
    refine iter_keys hs hgd hx hdt (pi_one (tk := s1.toks) I1 _ (turn_keys _ hdt) ⟨_, Heap.get?_push_size _ rfl, rfl, ?_⟩ q)
    rw [hsz] <;> rfl
  · subst ex
    obtain rfl : v = Value.ref d := r1
    obtain ⟨hs, hgd, hx, es, ep, hdt, hsz, ent⟩ := I1.frzT hd
    refine iter_keys hs hgd hx hdt (pi_one (tk := s1.toks) I1 _ (turn_keysT _ hdt) ⟨_, Heap.get?_push_size _ rfl, rfl, ?_⟩ q)
    rw [hsz] <;> rfl⟩
noncomputable def fItems (fe : FE) : FI := bindE fe fun r S => match r.esc S with
  | some (.lst ds, S1) => some (.ok ds S1)
  | some (.tup ds, S1) => some (.ok ds S1)
  | some (.kt ds, S1) => some (.ok ds S1)
  | some (.str x, S1) => some (.ok (signs x) S1)
  | some (.wK ks _, S1) => some (.ok (ks.map keyD) S1)
  | some (.wT ks _, S1) => some (.ok (ks.map fun k => .tup (k.map keyD)) S1)
  | _ => none
theorem di_any (h : DE X W e te fe) : DI X W tg e (wAny X.K te) (fItems fe) := ⟨pi_any h.pe, fun S σ H Φ A F G st out ho R q => by
  refine run1 (t := te) h.ev st ho (fun e S' eo => by subst eo; exact q) fun r S1 v H1 Φ1 A1 T F1 G1 sp st1 rv nd fz h1 => ?_
  cases ee : r.esc S1 with
  | none => rw [ee] at h1; cases h1
  | some z =>
    obtain ⟨d, S2⟩ := z
    rw [ee] at h1
    obtain ⟨Φ2, F2, sp2, st2, rp2, fz2⟩ := esc_ok st1 rv nd ee
    cases d <;> try cases h1
    · cases rp2
      exact .inr (.inr (.inl ⟨_, rfl, q _ H1 Φ2 A1 F2 G1 (sp.trans0 sp2) st2 (fz.trans fz2) walk_S⟩))
    · cases rp2 with
      | lst sq rr => exact .inl ⟨_, _, rfl, .inl (.inl (st2.le _ _ sq)), q _ H1 Φ2 A1 F2 G1 (sp.trans0 sp2) st2 (fz.trans fz2) (walk_L (.inl (.inl sq)) rr)⟩
    · cases rp2 with
      | tup sq rr => exact .inr (.inl ⟨_, _, rfl, .inl (.inl (st2.le _ _ sq)), q _ H1 Φ2 A1 F2 G1 (sp.trans0 sp2) st2 (fz.trans fz2) (walk_T (.inl (.inl sq)) rr)⟩)
    · cases rp2 with
      | kt sq rr => exact .inr (.inl ⟨_, _, rfl, sqT_mono st2.le sq, q _ H1 Φ2 A1 F2 G1 (sp.trans0 sp2) st2 (fz.trans fz2) (walk_T sq rr)⟩)
    · cases rp2 with
      | wK e0 hl rr => exact .inr (.inr (.inr (.inl ⟨_, _, _, rfl, st2.le _ _ e0, q _ H1 Φ2 A1 F2 G1 (sp.trans0 sp2) st2 (fz.trans fz2) (walk_Kk e0 hl)⟩)))
    · cases rp2 with
      | wT e0 hl rr => exact .inr (.inr (.inr (.inr ⟨_, _, _, rfl, st2.le _ _ e0, q _ H1 Φ2 A1 F2 G1 (sp.trans0 sp2) st2 (fz.trans fz2) (walk_KT e0 hl)⟩)))⟩
noncomputable def rangeL (lo : Int) (n : Nat) (c : Int) : List D := (List.range n).map fun (i : Nat) => D.int (lo + (i : Int) * c)
theorem rangeL_get {lo c : Int} {n i : Nat} {d : D} (h : (rangeL lo n c)[i]? = some d) : i < n ∧ d = .int (lo + (i : Int) * c) := by
  unfold rangeL at h
  rw [List.getElem?_map] at h
  by_cases hi : i < n
  · rw [List.getElem?_range hi] at h; cases h; exact ⟨hi, rfl⟩
  · rw [List.getElem?_eq_none (by simpa using hi)] at h; cases h
theorem walk_R {K : PySem.W.Frag} {Φ0 : Hp} {lo : Int} {n : Nat} : Walk K Φ0 (Itr lo n) (rangeL lo n 1) := fun S σ H Φ A F G st le i => by
  refine ⟨fun d ed => ?_, fun ei => by unfold rangeL at ei; simp at ei; exact Nat.le_of_eq ei.symm⟩
  obtain ⟨hi, rfl⟩ := rangeL_get ed
  refine ⟨hi, fun y H' hy => ?_⟩
  obtain ⟨rfl, rfl⟩ := hy
  refine ⟨Φ, .refl, st, ?_⟩
  rw [Int.mul_one]; exact .int _
noncomputable def small62 (i : Int) : Prop := -(2 ^ 62) ≤ i ∧ i < 2 ^ 62
instance (i : Int) : Decidable (small62 i) := by unfold small62; infer_instance
noncomputable def range1 : List D → Option (List D)
  | [.int j] => if small62 j then some (rangeL 0 j.toNat 1) else none
  | _ => none
noncomputable def range2 : List D → Option (List D)
  | [.int i, .int j] => if small62 i ∧ small62 j then some (rangeL i (j - i).toNat 1) else none
  | _ => none
noncomputable def steps3 (i j c : Int) : Nat := if c = -1 then (i - j).toNat else if c = 1 then (j - i).toNat else ((j - i + 1) / 2).toNat
noncomputable def range3 : List D → Option (List D)
  | [.int i, .int j, .int c] => if small62 i ∧ small62 j ∧ (c = -1 ∨ c = 1 ∨ c = 2) then some (rangeL i (steps3 i j c) c) else none
  | _ => none
noncomputable def fRange (g : List D → Option (List D)) (fa : FA) : FI := bindE fa fun rs S => (peeksR rs S).bind fun ds => (g ds).map fun is => .ok is S
theorem ev_range {K : PySem.W.Frag} {g : List D → Option (List D)} {k : List V → Hp → (It → Hp → Prop) → Prop} (ha : EVA K W t fa)
    (hk : ∀ H vs ds is, Rps K H vs ds → g ds = some is → ∃ J, (∀ Φ0, Walk K Φ0 J is) ∧ ∀ R : It → Hp → Prop, R J H → k vs H R) : IEV K W (fun σ H R => t σ H fun vs H1 => k vs H1 R) (fRange g fa) := fun S σ H Φ A F G st out ho R q => by
  refine runA (t := t) ha st ho (fun e S' eo => by subst eo; exact q) fun rs S1 vs H1 Φ1 A1 T F1 G1 sp st1 rv nd fz h1 => ?_
  cases e1 : peeksR rs S1 with
  | none => rw [e1] at h1; cases h1
  | some ds =>
    rw [e1] at h1
    have h1 : (g ds).map (fun is => Out.ok is S1) = some out := h1
    cases e2 : g ds with
    | none => rw [e2] at h1; cases h1
    | some is =>
      rw [e2] at h1; cases h1
      obtain ⟨J, wk, hR⟩ := hk H1 vs ds is (peeksR_ok st1 rv e1) e2
      exact hR R (q J H1 Φ1 A1 F1 G1 sp.drop st1 fz (wk _))
theorem di_range1 {a : Expr} (hm : X.mg "range" = none) (ha : DA X W [a] t fa) (hg : Gl X "range" := by rfl) (hs : starEach [a] X.env = [(false, eval a X.env)] := by rfl) : DI X W tg (.Call (.Name "range" p) [a] [] pos) (iRng1 t) (fRange range1 fa) := ⟨pi_range1 hg hm ha.pe hs, ev_range (k := fun vs H1 R => ∃ j : Int, vs = [.int j] ∧ -(2 ^ 62) ≤ j ∧ j < 2 ^ 62 ∧ R (Itr 0 j.toNat) H1) ha.ev fun H vs ds is rr e => by
  unfold range1 at e
  split at e
  · rename_i j
    split at e
    · rename_i h
      cases e
      cases rr with
      | cons r rs => cases rs; cases r; exact ⟨Itr 0 j.toNat, fun _ => walk_R, fun R q => ⟨j, rfl, h.1, h.2, q⟩⟩
    · cases e
  · cases e⟩
end
end L3
namespace L3
open PySem PySem.Spec PyProof.Rows L2
noncomputable def wipeL (ρ : List (Option SV)) : List Nat → List (Option SV)
  | [] => ρ
  | v :: vs => (wipeL ρ vs).set v none
noncomputable def Sto.wipe (S : Sto) (vs : List Nat) : Sto := { S with ρ := wipeL S.ρ vs }
section
variable {K : PySem.W.Frag} {S S' : Sto} {σ : Sl} {H Φ : Hp} {A F G : List Addr}
theorem ro_set_none : ∀ {σ : Sl} {ρ : List (Option SV)} {F : List Addr} {i : Nat}, RO K Φ H A σ ρ F → ∃ F', RO K Φ H A (σ.set i none) (ρ.set i none) F' ∧ F'.Sublist F
  | _, _, _, _, .nil => ⟨[], by simpa using .nil, List.Sublist.refl _⟩
  | _, _, _, 0, .non (F := F) r => ⟨F, .non r, List.Sublist.refl _⟩
  | _, _, _, 0, .som (F := F) (G := G) _ r => ⟨G, .non r, List.sublist_append_right F G⟩
  | _, _, _, i + 1, .non r => by
    obtain ⟨F', r', s⟩ := ro_set_none (i := i) r
    exact ⟨F', .non r', s⟩
  | _, _, _, i + 1, .som (F := F) q r => by
    obtain ⟨F', r', s⟩ := ro_set_none (i := i) r
    exact ⟨F ++ F', .som q r', (List.Sublist.refl F).append s⟩
theorem ro_wipe {σ : Sl} {ρ : List (Option SV)} {F : List Addr} (r : RO K Φ H A σ ρ F) : ∀ vs : List Nat, ∃ F', RO K Φ H A (wipe σ vs) (wipeL ρ vs) F' ∧ F'.Sublist F
  | [] => ⟨F, r, List.Sublist.refl _⟩
  | v :: vs => by
    obtain ⟨F1, r1, s1⟩ := ro_wipe r vs
    obtain ⟨F2, r2, s2⟩ := ro_set_none (i := v) r1
    exact ⟨F2, r2, s2.trans s1⟩
theorem Stands.wipe (st : Stands K S σ H Φ A F G) (vs : List Nat) : ∃ F', Stands K (S.wipe vs) (L2.wipe σ vs) H Φ A F' G ∧ F'.Sublist F := by
  obtain ⟨F', r, s⟩ := ro_wipe st.ro vs
  exact ⟨F', ⟨st.le, r, st.rc, st.nd.sublist (s.append (List.Sublist.refl G))⟩, s⟩
theorem wipe_at (σ : Sl) : ∀ (vs : List Nat) (j : Nat), j ∉ vs → (L2.wipe σ vs)[j]? = σ[j]?
  | [], j, _ => rfl
  | v :: vs, j, h => by
    rw [List.mem_cons, not_or] at h
    unfold L2.wipe
    rw [List.getElem?_set_ne (fun e => h.1 e.symm)]
    exact wipe_at σ vs j h.2
theorem wipe_in (σ : Sl) : ∀ (vs : List Nat) (j : Nat), j ∈ vs → j < σ.length → (L2.wipe σ vs)[j]? = some none
  | v :: vs, j, h, hj => by
    unfold L2.wipe
    by_cases e : v = j
    · subst e; rw [List.getElem?_set_self (by rw [wipe_length]; exact hj)]
    · rw [List.getElem?_set_ne e]
      exact wipe_in σ vs j (by rcases List.mem_cons.mp h with h | h; exact absurd h.symm e; exact h) hj
theorem wipe_but {σ σ' : Sl} {vs is : List Nat} (h : But is (L2.wipe σ vs) σ') (hi : ∀ i ∈ is, i ∈ vs) : L2.wipe σ' vs = L2.wipe σ vs := by
  have hl : σ'.length = σ.length := by rw [h.1, wipe_length]
  apply List.ext_getElem?
  intro j
  by_cases hj : j ∈ vs
  · by_cases hlt : j < σ.length
    · rw [wipe_in σ' vs j hj (by omega), wipe_in σ vs j hj hlt]
    · rw [List.getElem?_eq_none (by rw [wipe_length]; omega), List.getElem?_eq_none (by rw [wipe_length]; omega)]
  · rw [wipe_at σ' vs j hj, h.2 j (fun z => hj (hi j z))]
theorem ro_unset : ∀ {σ : Sl} {ρ : List (Option SV)} {F : List Addr} {i : Nat}, RO K Φ H A (σ.set i none) ρ F → RO K Φ H A σ ρ F
  | [], _, _, _, r => by simpa using r
  | o :: σ, _, _, 0, .non r => .non r
  | o :: σ, _, _, i + 1, r => by
    have r : RO K Φ H A (o :: σ.set i none) _ _ := r
    cases r with
    | non r2 => exact .non (ro_unset r2)
    | som q r2 => exact .som q (ro_unset r2)
theorem ro_unwipe : ∀ (vs : List Nat) {σ : Sl} {ρ : List (Option SV)} {F : List Addr}, RO K Φ H A (L2.wipe σ vs) ρ F → RO K Φ H A σ ρ F
  | [], _, _, _, r => r
  | v :: vs, σ, ρ, F, r => ro_unwipe vs (ro_unset (i := v) r)
theorem Stands.unwipe {vs : List Nat} (st : Stands K S (L2.wipe σ vs) H Φ A F G) : Stands K S σ H Φ A F G := ⟨st.le, ro_unwipe vs st.ro, st.rc, st.nd⟩
theorem frz_wipe (S : Sto) : ∀ vs : List Nat, Frz S (S.wipe vs) := by
  intro vs
  induction vs with
  | nil => exact .refl
  | cons v vs ih =>
    intro i p y hp h
    refine ih i p y hp ?_
    unfold Sto.sub at h ⊢
    have e : (S.wipe (v :: vs)).ρ = ((S.wipe vs).ρ).set v none := rfl
    rw [e] at h
    by_cases hj : v = i
    · subst hj
      by_cases hl : v < (S.wipe vs).ρ.length
      · rw [List.getElem?_set_self hl] at h; cases h
      · rw [List.getElem?_eq_none (by simpa using hl)] at h; cases h
    · rw [List.getElem?_set_ne hj] at h; exact h
theorem Step.subF {F1 G1 F2 : List Addr} {H1 Φ1 : Hp} {A1 : List Addr} (a : Step F G H Φ A F1 G1 H1 Φ1 A1) (h : ∀ b ∈ F2, b ∈ F1) : Step F G H Φ A F2 G1 H1 Φ1 A1 := ⟨a.keep, a.le, a.grow, fun b hb => a.ownF b (h b hb), a.ownG, a.live, a.cells⟩
end
noncomputable def compF (tg : Tg) (ft : FT) (fe : FE) (vs : List Nat) : List D → List SV → Sto → Option (List SV × Sto)
  | [], acc, S => some (acc, S)
  | d :: r, acc, S => match tgS tg d S.ρ with
    | some ρ => match ft { S with ρ := ρ } with
      | some (.ok true S1) => match fe S1 with
        | some (.ok y S2) => match y.kid S2 with
          | some (x, S3) => if acc.length < 1000000 then compF tg ft fe vs r (acc ++ [x]) (S3.wipe vs) else none
          | none => none
        | _ => none
      | some (.ok false S1) => compF tg ft fe vs r acc (S1.wipe vs)
      | _ => none
    | none => none
noncomputable def fComp (tg : Tg) (fi : FI) (ft : FT) (fe : FE) (vs : List Nat) : FE := bindE fi fun ds S => match compF tg ft fe vs ds [] (S.wipe vs) with
  | some (acc, S1) => some (.ok (.val (.own acc)) S1)
  | none => none
noncomputable abbrev W0 : WX := fun _ _ _ _ => False
theorem rss_snoc {K : PySem.W.Frag} {Φ H : Hp} {A : List Addr} {vs : List V} {xs : List SV} {U T : List Addr} {v : V} {x : SV} (h : RSs K Φ H A vs xs U) (q : RS K Φ H A v x T) : RSs K Φ H A (vs ++ [v]) (xs ++ [x]) (U ++ T) := by
  have := h.app (RSs.cons q (.nil (K := K) (Φ := Φ) (H := H) (A := A)))
  rwa [List.append_nil] at this
theorem grow_list {K : PySem.W.Frag} {S : Sto} {σ : Sl} {H Φ : Hp} {A F G U T : List Addr} {p : Addr} {acc : List SV} {v : V} {x : SV} (st : Stands K S σ H Φ A F G) (h : RS K Φ H A (.ref p) (.own acc) (p :: U)) (q : RS K Φ H A v x T) (nd : ((p :: U) ++ (T ++ (F ++ G))).Nodup) :
    ∃ vs, H p = some (.lst vs) ∧ vs.length = acc.length ∧ Stands K S σ (upd H p (.lst (vs ++ [v]))) Φ A F G ∧ RS K Φ (upd H p (.lst (vs ++ [v]))) A (.ref p) (.own (acc ++ [x])) (p :: (U ++ T)) := by
  cases h with
  | node ea f pa r =>
    rename_i vs
    have ea : H p = some (.lst vs) := ea
    have nep : ∀ b ∈ U ++ (T ++ (F ++ G)), b ≠ p := fun b hb e => by
      subst e
      exact (List.nodup_cons.mp nd).1 hb
    have same : ∀ b ∈ U ++ (T ++ (F ++ G)), upd H p (.lst (vs ++ [v])) b = H b := fun b hb => upd_ne (nep b hb)
    have leΦ : Same Φ (upd H p (.lst (vs ++ [v]))) := fun b o e => by
      have hb : b ≠ p := fun z => by subst z; rw [pa] at e; cases e
      rw [upd_ne hb]; exact st.le _ _ e
    refine ⟨vs, ea, r.length, ⟨leΦ, st.ro.frame (Same.refl _) Pfx.refl (fun b hb => same b (by simp [hb])) (fun b hb => (st.ro.there b hb).2), st.rc.frame (Same.refl _) Pfx.refl (fun b hb => same b (by simp [hb])) (fun b hb => (st.rc.there b hb).2), st.nd⟩, ?_⟩
    exact .node (n := .lst) upd_same ⟨trivial, trivial⟩ pa (rss_snoc (r.frame (Same.refl _) Pfx.refl (fun b hb => same b (by simp [hb])) (fun b hb => (r.there b hb).2)) (q.frame (Same.refl _) Pfx.refl (fun b hb => same b (by simp [hb])) (fun b hb => (q.there b hb).2)))
theorem put_frz {μ : List SV} {ρ : List (Option SV)} {i : Nat} {d : D} : Frz ⟨ρ, μ⟩ ⟨ρ.set i (some (.dat d)), μ⟩ := fun j p y hp h => by
  unfold Sto.sub at h ⊢
  dsimp only at h ⊢
  by_cases hj : i = j
  · subst hj
    by_cases hl : i < ρ.length
    · rw [List.getElem?_set_self hl] at h
      cases p with
      | nil => exact absurd rfl hp
      | cons k p => cases h
    · rw [List.getElem?_eq_none (by simpa using hl)] at h; cases h
  · rw [List.getElem?_set_ne hj] at h; exact ⟨y, h⟩
mutual
theorem tgS_frz {μ : List SV} : ∀ (tg : Tg) (d : D) (ρ0 ρ : List (Option SV)), tgS tg d ρ0 = some ρ → Frz ⟨ρ0, μ⟩ ⟨ρ, μ⟩
  | .nm i, d, ρ0, ρ, e => by
    rw [tgS] at e
    split at e
    · cases e; exact put_frz
    · cases e
  | .tp ts, .tup ds, ρ0, ρ, e => by rw [tgS] at e; exact tgsS_frz ts ds ρ0 ρ e
  | .tp ts, .kt ds, ρ0, ρ, e => by rw [tgS] at e; exact tgsS_frz ts ds ρ0 ρ e
  | .tp ts, .non, ρ0, ρ, e => by simp [tgS] at e
  | .tp ts, .bl _, ρ0, ρ, e => by simp [tgS] at e
  | .tp ts, .int _, ρ0, ρ, e => by simp [tgS] at e
  | .tp ts, .str _, ρ0, ρ, e => by simp [tgS] at e
  | .tp ts, .lst ds, ρ0, ρ, e => by rw [tgS] at e; exact tgsS_frz ts ds ρ0 ρ e
  | .tp ts, .dK _ _, ρ0, ρ, e => by simp [tgS] at e
  | .tp ts, .dT _ _, ρ0, ρ, e => by simp [tgS] at e
  | .tp ts, .wK _ _, ρ0, ρ, e => by simp [tgS] at e
  | .tp ts, .wT _ _, ρ0, ρ, e => by simp [tgS] at e
  | .tp ts, .fn _, ρ0, ρ, e => by simp [tgS] at e
  | .tp ts, .exc _ _ _, ρ0, ρ, e => by simp [tgS] at e
theorem tgsS_frz {μ : List SV} : ∀ (ts : List Tg) (ds : List D) (ρ0 ρ : List (Option SV)), tgsS ts ds ρ0 = some ρ → Frz ⟨ρ0, μ⟩ ⟨ρ, μ⟩
  | [], [], ρ0, ρ, e => by rw [tgsS] at e; cases e; exact .refl
  | [], _ :: _, ρ0, ρ, e => by simp [tgsS] at e
  | _ :: _, [], ρ0, ρ, e => by simp [tgsS] at e
  | t :: ts, d :: ds, ρ0, ρ, e => by
    rw [tgsS] at e
    cases e1 : tgS t d ρ0 with
    | none => rw [e1] at e; cases e
    | some ρ1 => rw [e1] at e; exact (tgS_frz t d ρ0 ρ1 e1).trans (tgsS_frz ts ds ρ1 ρ e)
end
theorem tg_step {S : Sto} {tg : Tg} {d : D} {ρ : List (Option SV)} (e : tgS tg d S.ρ = some ρ) : Frz S { S with ρ := ρ } := tgS_frz tg d S.ρ ρ e
theorem ev_comp {K : PySem.W.Frag} {W : WX} {wi : TI} {g : TG} {tt : TT} {te : TE} {tg : Tg} {fi : FI} {ft : FT} {fe : FE} {vs : List Nat} (hi : IEV K W wi fi) (hg : GEV K g tg) (ht : EVT K W0 tt ft) (he : EV K W0 te fe) (hv : ∀ i ∈ tg.sl, i ∈ vs) :
    EV K W (tLc wi g tt te vs) (fComp tg fi ft fe vs) := fun S σ H Φ A F G st out ho Q q => by
  unfold fComp bindE at ho
  cases e : fi S with
  | none => rw [e] at ho; cases ho
  | some o =>
    rw [e] at ho
    cases o with
    | exc x S1 => cases ho; exact hi S σ H Φ A F G st _ e _ q
    | ok ds S1 =>
      refine hi S σ H Φ A F G st _ e _ fun J H1 Φ1 A1 F1 G1 sp st1 fz wk => ?_
      dsimp only at ho
      intro L hL
      cases ec : compF tg ft fe vs ds [] (S1.wipe vs) with
      | none => rw [ec] at ho; cases ho
      | some z =>
        obtain ⟨accE, SE⟩ := z
        rw [ec] at ho; cases ho
        obtain ⟨F1', stw, sub1⟩ := st1.wipe vs
        refine ⟨fun i m H2 => i + m = ds.length ∧ ∃ S2 Φ2 A2 F2 G2 acc U, Step F1 G1 H1 Φ1 A1 ((L :: U) ++ F2) G2 H2 Φ2 A2 ∧ Stands K S2 (L2.wipe σ vs) H2 Φ2 A2 F2 G2 ∧ RS K Φ2 H2 A2 (.ref L) (.own acc) (L :: U) ∧ ((L :: U) ++ (F2 ++ G2)).Nodup ∧ Frz S1 S2 ∧ Same Φ1 Φ2 ∧ compF tg ft fe vs (ds.drop i) acc S2 = some (accE, SE),
          ⟨ds.length, by omega, S1.wipe vs, Φ1, A1, F1', G1, [], [], ?_⟩, ?_⟩
        · obtain ⟨n1, n2, n3, n4⟩ := new_list stw (.nil (K := K) (Φ := Φ1) (H := H1) (A := A1)) (by simpa using stw.nd) hL
          refine ⟨?_, n2, n3, n4, frz_wipe S1 vs, Same.refl _, by simpa using ec⟩
          have := n1
          simp only [List.nil_append] at this
          exact ⟨this.keep, this.le, fun b o e => .inl e, fun b hb => by
            rcases this.ownF b hb with h | h | h
            · exact .inl (sub1.subset h)
            · exact .inr (.inl h)
            · exact .inr (.inr h), this.ownG, this.live, this.cells⟩
        · rintro i m H2 ⟨em, S2, Φ2, A2, F2, G2, acc, U, sp2, st2, rl, nd2, fz2, le2, h2⟩
          obtain ⟨w1, w2⟩ := wk S2 (L2.wipe σ vs) H2 Φ2 A2 F2 G2 st2 le2 i
          by_cases hi : i < ds.length
          · have ed : ds[i]? = some ds[i] := List.getElem?_eq_getElem hi
            obtain ⟨jgo, jy⟩ := w1 _ ed
            have ecd : ds.drop i = ds[i] :: ds.drop (i + 1) := List.drop_eq_getElem_cons hi
            rw [ecd] at h2
            refine .inr ⟨jgo, fun H' => ∃ S3 Φ3 A3 F3 G3 acc3 U3, Step F1 G1 H1 Φ1 A1 ((L :: U3) ++ F3) G3 H' Φ3 A3 ∧ Stands K S3 (L2.wipe σ vs) H' Φ3 A3 F3 G3 ∧ RS K Φ3 H' A3 (.ref L) (.own acc3) (L :: U3) ∧ ((L :: U3) ++ (F3 ++ G3)).Nodup ∧ Frz S1 S3 ∧ Same Φ1 Φ3 ∧ compF tg ft fe vs (ds.drop (i + 1)) acc3 S3 = some (accE, SE),
              fun H' h => ⟨m - 1, by omega, by omega, h⟩, fun x H' hy => ?_⟩
            obtain ⟨Φ3, sp3, st3, rp3⟩ := jy x H' hy
            have h2 : (match tgS tg ds[i] S2.ρ with
              | some ρ => match ft { S2 with ρ := ρ } with
                | some (.ok true S1) => match fe S1 with
                  | some (.ok y S2) => match y.kid S2 with
                    | some (x, S3) => if acc.length < 1000000 then compF tg ft fe vs (ds.drop (i + 1)) (acc ++ [x]) (S3.wipe vs) else none
                    | none => none
                  | _ => none
                | some (.ok false S1) => compF tg ft fe vs (ds.drop (i + 1)) acc (S1.wipe vs)
                | _ => none
              | none => none) = some (accE, SE) := h2
            cases e3 : tgS tg ds[i] S2.ρ with
            | none => rw [e3] at h2; cases h2
            | some ρ =>
              rw [e3] at h2
              dsimp only at h2
              -- the target stored
              have rl3 := rl.frame sp3.le sp3.cells (sp3.same (T := L :: U) (fun b hb => rl.there b hb) nd2).1 (sp3.same (T := L :: U) (fun b hb => rl.there b hb) nd2).2
              refine hg S2 (L2.wipe σ vs) H' Φ3 A2 F2 G2 x ds[i] ρ st3 rp3 e3 _ fun σ4 F4 st4 hF4 but4 => ⟨wipe_but but4 hv, ?_⟩
              have nd4 : ((L :: U) ++ (F4 ++ G2)).Nodup := by
                have n4 := st4.nd
                refine List.nodup_append.mpr ⟨(List.nodup_append.mp nd2).1, n4, fun a ha b hb => (List.nodup_append.mp nd2).2.2 a ha b ?_⟩
                rcases List.mem_append.mp hb with hb | hb
                · exact List.mem_append_left _ (hF4 b hb)
                · exact List.mem_append_right _ hb
              have s4 : Step F1 G1 H1 Φ1 A1 ((L :: U) ++ F4) G2 H' Φ3 A2 := (Step.trans (T1 := []) sp2 sp3).subF (F2 := (L :: U) ++ F4) (fun b hb => by
                rcases List.mem_append.mp hb with hb | hb
                · exact List.mem_append_left _ hb
                · exact List.mem_append_right _ (hF4 b hb))
              have fz4 : Frz S1 { S2 with ρ := ρ } := fz2.trans (tg_step e3)
              cases e5 : ft { S2 with ρ := ρ } with
              | none => rw [e5] at h2; cases h2
              | some o5 =>
                rw [e5] at h2
                cases o5 with
                | exc x5 S5 => cases h2
                | ok b S5 =>
                  refine ht _ σ4 H' Φ3 A2 F4 G2 st4 _ e5 _ fun H5 Φ5 A5 F5 G5 sp5 st5 fz5 => ?_
                  obtain ⟨k5, p5⟩ := sp5.same (T := L :: U) (fun b hb => rl3.there b hb) nd4
                  have rl5 := rl3.frame sp5.le sp5.cells k5 p5
                  have nd5 : ((L :: U) ++ (F5 ++ G5)).Nodup := sp5.apart (fun b hb => (rl3.there b hb).1.ne) nd4 st5.nd
                  have s5 : Step F1 G1 H1 Φ1 A1 ((L :: U) ++ F5) G5 H5 Φ5 A5 := Step.trans (T1 := []) s4 sp5
                  cases b with
                  | false =>
                    rw [if_neg (by decide)]
                    dsimp only at h2
                    obtain ⟨F6, st6, sub6⟩ := st5.wipe vs
                    rw [wipe_but but4 hv] at st6
                    refine ⟨S5.wipe vs, Φ5, A5, F6, G5, acc, U, s5.subF (fun b hb => ?_), st6, rl5, ?_, (fz4.trans fz5).trans (frz_wipe _ _), s5.le, h2⟩
                    · rcases List.mem_append.mp hb with hb | hb
                      · exact List.mem_append_left _ hb
                      · exact List.mem_append_right _ (sub6.subset hb)
                    · exact nd5.sublist ((List.Sublist.refl _).append (sub6.append (List.Sublist.refl _)))
                  | true =>
                    rw [if_pos rfl]
                    dsimp only at h2
                    cases e6 : fe S5 with
                    | none => rw [e6] at h2; cases h2
                    | some o6 =>
                      rw [e6] at h2
                      cases o6 with
                      | exc x6 S6 => cases h2
                      | ok y S6 =>
                        refine he S5 σ4 H5 Φ5 A5 F5 G5 st5 _ e6 _ fun yv H6 Φ6 A6 T F6 G6 sp6 st6 rv6 nd6 fz6 => ?_
                        dsimp only at h2
                        obtain ⟨k6, p6⟩ := sp6.same (T := L :: U) (fun b hb => rl5.there b hb) nd5
                        have rl6 := rl5.frame sp6.le sp6.cells k6 p6
                        have nd6' : ((L :: U) ++ (T ++ (F6 ++ G6))).Nodup := by
                          have := sp6.apart (fun b hb => (rl5.there b hb).1.ne) nd5 (by rw [List.append_assoc]; exact nd6)
                          simpa [List.append_assoc] using this
                        have s6 : Step F1 G1 H1 Φ1 A1 ((L :: U) ++ (T ++ F6)) G6 H6 Φ6 A6 := s5.trans sp6
                        cases ek : y.kid S6 with
                        | none => rw [ek] at h2; cases h2
                        | some z7 =>
                          obtain ⟨x7, S7⟩ := z7
                          rw [ek] at h2
                          dsimp only at h2
                          obtain ⟨Φ7, F7, sp7, st7, rs7, fz7⟩ := kid_ok st6 rv6 nd6 ek
                          have hT6 : ∀ b ∈ (L :: U) ++ T, On H6 b ∧ Φ6 b = none := fun b hb => by
                            rcases List.mem_append.mp hb with hb | hb
                            · exact rl6.there b hb
                            · exact rv6.there b hb
                          have nd6'' : (((L :: U) ++ T) ++ (F6 ++ G6)).Nodup := by simpa [List.append_assoc] using nd6'
                          obtain ⟨k7, p7⟩ := sp7.same (T := (L :: U) ++ T) hT6 nd6''
                          have rl7 := rl6.frame sp7.le sp7.cells (fun b hb => k7 b (List.mem_append_left _ hb)) (fun b hb => p7 b (List.mem_append_left _ hb))
                          have nd7 : ((L :: U) ++ (T ++ (F7 ++ G6))).Nodup := by
                            have := sp7.apart (T := (L :: U) ++ T) (fun b hb => (hT6 b hb).1) nd6'' st7.nd
                            simpa [List.append_assoc] using this
                          have s7 : Step F1 G1 H1 Φ1 A1 ((L :: U) ++ (T ++ F7)) G6 H6 Φ7 A6 := by
                            have s6' : Step F1 G1 H1 Φ1 A1 (((L :: U) ++ T) ++ F6) G6 H6 Φ6 A6 := by rw [List.append_assoc]; exact s6
                            have := Step.trans (T1 := []) s6' sp7
                            rw [List.nil_append, List.append_assoc] at this
                            exact this
                          by_cases hacc : acc.length < 1000000
                          · rw [if_pos hacc] at h2
                            obtain ⟨vs7, eL, hlen, st8, rs8⟩ := grow_list st7 rl7 rs7 nd7
                            refine ⟨vs7, eL, by rw [hlen]; exact Nat.lt_of_lt_of_le hacc (by rw [sizeLine_eq]; decide), ?_⟩
                            obtain ⟨F9, st9, sub9⟩ := st8.wipe vs
                            rw [wipe_but but4 hv] at st9
                            refine ⟨S7.wipe vs, Φ7, A6, F9, G6, acc ++ [x7], U ++ T, ⟨fun b o eb hb => ?_, s7.le, s7.grow, fun b hb => ?_, s7.ownG, fun b hb => ?_, s7.cells⟩, st9, rs8, ?_, (((fz4.trans fz5).trans fz6).trans fz7).trans (frz_wipe _ _), s7.le, h2⟩
                            · have nb : b ≠ L := fun z => by subst z; rw [hL] at eb; cases eb
                              rw [upd_ne nb]; exact s7.keep b o eb hb
                            · refine s7.ownF b ?_
                              simp only [List.mem_append, List.mem_cons] at hb ⊢
                              rcases hb with (h | h | h) | h
                              · exact .inl (.inl h)
                              · exact .inl (.inr h)
                              · exact .inr (.inl h)
                              · exact .inr (.inr (sub9.subset h))
                            · by_cases nb : b = L
                              · subst nb; rw [upd_same]; simp
                              · rw [upd_ne nb]; exact s7.live b hb
                            · have h9 : ((L :: U) ++ (T ++ (F9 ++ G6))).Nodup := nd7.sublist ((List.Sublist.refl _).append ((List.Sublist.refl _).append (sub9.append (List.Sublist.refl _))))
                              have e9 : (L :: (U ++ T)) ++ (F9 ++ G6) = (L :: U) ++ (T ++ (F9 ++ G6)) := by simp [List.append_assoc]
                              rw [e9]; exact h9
                          · rw [if_neg hacc] at h2; cases h2
          · have ei : i = ds.length := by omega
            rw [List.drop_eq_nil_of_le (by omega)] at h2
            cases h2
            refine .inl ⟨w2 ei, ?_⟩
            have s3 : Step F G H Φ A ((L :: U) ++ F2) G2 H2 Φ2 A2 := Step.trans (T := []) (T1 := L :: U) sp sp2
            exact q (.ref L) H2 Φ2 A2 (L :: U) F2 G2 s3 st2.unwipe rl nd2 (fz.trans fz2)
section
variable {X : Cx} {W : WX} {elt tge iter : Expr} {ifs : List Expr} {scope : Scope} {own : List (Str × Nat)} {pos spos py : Pos} {wi : TI} {g : TG} {tt : TT} {te : TE} {tg : Tg} {fi : FI} {ft : FT} {fe : FE}
structure DTs (X : Cx) (W : WX) (ifs : List Expr) (t : TT) (f : FT) : Prop where
  pe : PTs X ifs t
  ev : EVT X.K W t f
noncomputable def fYes : FT := retE true
theorem dts_nil : DTs X W [] tYes fYes := ⟨pts_nil, fun S σ H Φ A F G st out ho Q q => by cases ho; exact q H Φ A F G .refl st .refl⟩
theorem dts_one {c : Expr} (h : DT X W c tt ft) : DTs X W [c] tt ft := ⟨pts_one h.pe, h.ev⟩
noncomputable def tOf (K : PySem.W.Frag) (W : WX) (f : FE) : TE := fun σ H Q => ∃ S Φ A F G out, Stands K S σ H Φ A F G ∧ f S = some out ∧ PostE K W S σ H Φ A F G Q out
noncomputable def tOfT (K : PySem.W.Frag) (W : WX) (f : FT) : TT := fun σ H Q => ∃ S Φ A F G out, Stands K S σ H Φ A F G ∧ f S = some out ∧ PostT K W S σ H Φ A F G Q out
theorem ev_tOf {K : PySem.W.Frag} {W : WX} {f : FE} : EV K W (tOf K W f) f := fun S σ H Φ A F G st out ho Q q => ⟨S, Φ, A, F, G, out, st, ho, q⟩
theorem ev_tOfT {K : PySem.W.Frag} {W : WX} {f : FT} : EVT K W (tOfT K W f) f := fun S σ H Φ A F G st out ho Q q => ⟨S, Φ, A, F, G, out, st, ho, q⟩
theorem DE.nf {e : Expr} (h : ∃ t, DE X W e t fe) : DE X W e (tOf X.K W fe) fe := by
  obtain ⟨t, h⟩ := h
  exact ⟨⟨fun pins s σ H Q I ⟨S, Φ, A, F, G, out, st, ho, q⟩ => h.pe.run pins s σ H Q I (h.ev S σ H Φ A F G st out ho Q q)⟩, ev_tOf⟩
theorem DTs.nf {es : List Expr} (h : ∃ t, DTs X W es t ft) : DTs X W es (tOfT X.K W ft) ft := by
  obtain ⟨t, h⟩ := h
  exact ⟨⟨fun pins s σ H Q I ⟨S, Φ, A, F, G, out, st, ho, q⟩ => h.pe.run pins s σ H Q I (h.ev S σ H Φ A F G st out ho Q q)⟩, ev_tOfT⟩
theorem de_comp (hc : X.calm = true) (hN : X.N.Nodup) (hi : DI X W tge iter wi fi) (ok : BlkOk X.N X.env.scope scope own)
    (hg : ∀ (s : Shared) (H : Hp) (C : Addr) (cl : List (Str × Addr)) (fp : List Addr), DG (X.blk s H scope (compEnvC scope cl C X.env) fp) tge g tg)
    (ht : ∀ (s : Shared) (H : Hp) (C : Addr) (cl : List (Str × Addr)) (fp : List Addr), ∃ tt, DTs (X.blk s H scope (compEnvC scope cl C X.env) fp) W0 ifs tt ft)
    (he : ∀ (s : Shared) (H : Hp) (C : Addr) (cl : List (Str × Addr)) (fp : List Addr), ∃ te, DE (X.blk s H scope (compEnvC scope cl C X.env) fp) W0 elt te fe)
    (hv : ∀ i ∈ tg.sl, i ∈ own.map (·.2) := by decide) (hs : ∀ x, foldedSetIterable iter X.env x = pure x := by intro _; rfl) :
    DE X W (.ListComp elt [⟨tge, iter, ifs, 0⟩] scope pos) (tLc wi g (tOfT X.K W0 ft) (tOf X.K W0 fe) (own.map (·.2))) (fComp tg fi ft fe (own.map (·.2))) :=
  ⟨pe_lc hc hN hi.pi ok (fun s H C cl fp => (hg s H C cl fp).pg) (fun s H C cl fp => (DTs.nf (ht s H C cl fp)).pe) (fun s H C cl fp => (DE.nf (he s H C cl fp)).pe) hs,
   ev_comp hi.ev (hg X.s_0 X.H_0 0 [] []).ev ev_tOfT ev_tOf hv⟩
theorem ds_setComp {y : Str} {i : Nat} (hc : X.calm = true) (hN : X.N.Nodup) (hi : DI X W tge iter wi fi) (ok : BlkOk X.N X.env.scope scope own)
    (hg : ∀ (s : Shared) (H : Hp) (C : Addr) (cl : List (Str × Addr)) (fp : List Addr), DG (X.blk s H scope (compEnvC scope cl C X.env) fp) tge g tg)
    (ht : ∀ (s : Shared) (H : Hp) (C : Addr) (cl : List (Str × Addr)) (fp : List Addr), ∃ tt, DTs (X.blk s H scope (compEnvC scope cl C X.env) fp) W0 ifs tt ft)
    (he : ∀ (s : Shared) (H : Hp) (C : Addr) (cl : List (Str × Addr)) (fp : List Addr), ∃ te, DE (X.blk s H scope (compEnvC scope cl C X.env) fp) W0 elt te fe)
    (hy : X.N[i]? = some y := by rfl) (hyl : X.env.scope.names.lookup y = some .local := by rfl)
    (hsw : swapsWith (.ListComp elt [⟨tge, iter, ifs, 0⟩] scope pos) (some (.Name y py)) spos.line X.env = pure true := by rfl)
    (hv : ∀ i ∈ tg.sl, i ∈ own.map (·.2) := by decide) (hs : ∀ x, foldedSetIterable iter X.env x = pure x := by intro _; rfl) :
    DS X W (.Assign [.Name y py] (.ListComp elt [⟨tge, iter, ifs, 0⟩] scope pos) spos) (tAsg (tLc wi g (tOfT X.K W0 ft) (tOf X.K W0 fe) (own.map (·.2))) (gName i)) (fSet i (fComp tg fi ft fe (own.map (·.2)))) :=
  ⟨ps_setLc hc hN hy hyl hsw hi.pi ok (fun s H C cl fp => (hg s H C cl fp).pg) (fun s H C cl fp => (DTs.nf (ht s H C cl fp)).pe) (fun s H C cl fp => (DE.nf (he s H C cl fp)).pe) hs,
   ev_set (ev_comp hi.ev (hg X.s_0 X.H_0 0 [] []).ev ev_tOfT ev_tOf hv)⟩
end
end L3
namespace L3
open PySem PySem.Spec PyProof.Rows L2
section
variable {K : PySem.W.Frag} {W : WX} {S S' : Sto} {σ : Sl} {H Φ : Hp} {A F G T : List Addr} {v : V}
noncomputable def Sto.putp (S : Sto) (i : Nat) (p : List Nat) (y : SV) : Option Sto := match S.ρ[i]? with
  | some (some x0) => some { S with ρ := S.ρ.set i (some (x0.putp p y)) }
  | _ => none
theorem mut_slot {i : Nat} {p : List Nat} {n : Nd} {xs : List SV} (st : Stands K S σ H Φ A F G) (e : S.sub i p = some (.node n xs)) (rv : RV K Φ H A S σ v (.bor i p) T) :
    ∃ a vs Fx, v = .ref a ∧ H a = some (n.ho vs) ∧ n.fits vs.length ∧ RSs K Φ H A vs xs Fx ∧ (∀ b ∈ a :: Fx, b ∈ F) ∧ (a :: Fx).Nodup ∧
      ∀ {n' : Nd} {vs' : List V} {xs' : List SV} {T' U' : List Addr} {S' : Sto}, (T' ++ (F ++ G)).Nodup → (∀ b ∈ T', H b ≠ none) → n'.fits vs'.length → RSs K Φ (upd H a (n'.ho vs')) A vs' xs' U' → (∀ b ∈ U', b ∈ Fx ∨ b ∈ T') → U'.Nodup →
        S.putp i p (.node n' xs') = some S' →
        ∃ F', Stands K S' σ (upd H a (n'.ho vs')) Φ A F' G ∧ Run (T' ++ F) G H Φ A F' G (upd H a (n'.ho vs')) Φ A := by
  obtain ⟨x0, e0, e1⟩ := sub_some e
  obtain ⟨rfl, v0, es, hp, hat⟩ := rv
  obtain ⟨v', F1, Fi, F2, e3, e4, q, up⟩ := st.ro.at e0
  rw [es] at e3; cases e3
  obtain ⟨u, E1, Ex, E2, a1, a2, a3, _, a5⟩ := RS.sub q e1
  have hu : u = v := a1.inj (hat _ e)
  subst hu
  cases a3 with
  | @node a _ vs _ Fx ea f pa qs =>
    subst a2 e4
    refine ⟨a, vs, Fx, rfl, ea, f, qs, fun b hb => by simp only [List.mem_append, List.mem_cons] at hb ⊢; grind, ?_, fun {n' vs' xs' T' U' S'} nd hT fit rs' hU ndU eS => ?_⟩
    · have := st.nd
      simp only [List.nodup_append, List.mem_append, List.nodup_cons, List.mem_cons] at this ⊢; grind
    · unfold Sto.putp at eS
      rw [e0] at eS
      cases eS
      have ndF := st.nd
      have nea : ∀ b, b ∈ (F1 ++ (E1 ++ E2) ++ F2) ++ G → b ≠ a := fun b hb z => by
        subst z
        simp only [List.nodup_append, List.mem_append, List.nodup_cons, List.mem_cons] at ndF hb; grind
      have same : ∀ b, b ∈ (F1 ++ (E1 ++ E2) ++ F2) ++ G → upd H a (n'.ho vs') b = H b := fun b hb => upd_ne (nea b hb)
      have node' : RS K Φ (upd H a (n'.ho vs')) A (.ref a) (.node n' xs') (a :: U') := .node upd_same fit pa rs'
      have r0 := a5 (Φ' := Φ) (H' := upd H a (n'.ho vs')) (A' := A) (Same.refl _) Pfx.refl (fun b hb => same b (by simp only [List.mem_append] at hb ⊢; grind)) (fun b hb => (RS.there q b (by simp only [List.mem_append] at hb ⊢; grind)).2) node'
      have r1 := (up (Φ' := Φ) (H' := upd H a (n'.ho vs')) (A' := A) (Same.refl _) Pfx.refl (fun b hb => same b (by simp only [List.mem_append] at hb ⊢; grind)) (fun b hb => (st.ro.there b (by simp only [List.mem_append] at hb ⊢; grind)).2)).1 r0
      have eσ : σ.set i (some v0) = σ := by
        obtain ⟨hk, ev⟩ := List.getElem?_eq_some_iff.mp es
        rw [← ev]; exact List.set_getElem_self hk
      rw [eσ] at r1
      have leΦ : Same Φ (upd H a (n'.ho vs')) := fun b o eb => by
        have hb : b ≠ a := fun z => by subst z; rw [pa] at eb; cases eb
        rw [upd_ne hb]; exact st.le _ _ eb
      refine ⟨F1 ++ ((E1 ++ ((a :: U') ++ E2)) ++ F2), ⟨leΦ, r1, st.rc.frame (Same.refl _) Pfx.refl (fun b hb => same b (by simp [hb])) (fun b hb => (st.rc.there b hb).2), ?_⟩, ⟨fun b o eb hf hg => ?_, Same.refl _, fun b o eb => .inl eb, fun b hb => ?_, fun b hb => ?_, Pfx.refl⟩⟩
      · have hU' : ∀ b ∈ U', b ∉ (F1 ++ (E1 ++ E2) ++ F2) ++ G ∧ b ≠ a := fun b hb => by
          rcases hU b hb with h | h
          · simp only [List.nodup_append, List.mem_append, List.nodup_cons, List.mem_cons] at ndF ⊢; grind
          · simp only [List.nodup_append, List.mem_append, List.nodup_cons, List.mem_cons] at nd ⊢; grind
        simp only [List.nodup_append, List.mem_append, List.nodup_cons, List.mem_cons] at ndF hU' ⊢; grind
      · have hb : b ≠ a := fun z => by subst z; exact hf (by simp)
        rw [upd_ne hb]; exact eb
      · rcases hb with hb | hb
        · simp only [List.mem_append, List.mem_cons] at hb ⊢
          grind
        · exact .inr (.inl hb)
      · by_cases z : b = a
        · subst z; rw [upd_same]; simp
        · rw [upd_ne z]; exact hb
noncomputable def Sto.cellp (S : Sto) (k : Nat) (y : SV) : Sto := { S with μ := S.μ.set k y }
theorem mut_cell {k : Nat} {n : Nd} {xs : List SV} {U : List Addr} (st : Stands K S σ H Φ A F G) (e : S.μ[k]? = some (.node n xs)) (rv : RS K Φ H A v (.cell k) U) :
    ∃ a vs Fx, v = .ref a ∧ H a = some (n.ho vs) ∧ n.fits vs.length ∧ RSs K Φ H A vs xs Fx ∧ (∀ b ∈ a :: Fx, b ∈ G) ∧ (a :: Fx).Nodup ∧
      ∀ {n' : Nd} {vs' : List V} {xs' : List SV} {T' U' : List Addr}, (T' ++ (F ++ G)).Nodup → (∀ b ∈ T', H b ≠ none) → n'.fits vs'.length → RSs K Φ (upd H a (n'.ho vs')) A vs' xs' U' → (∀ b ∈ U', b ∈ Fx ∨ b ∈ T') → U'.Nodup →
        ∃ G', Stands K (S.cellp k (.node n' xs')) σ (upd H a (n'.ho vs')) Φ A F G' ∧ Run (T' ++ F) G H Φ A F G' (upd H a (n'.ho vs')) Φ A := by
  cases rv with
  | @cell _ a hc =>
    obtain ⟨a', F1, Fi, F2, e1, e2, q, up⟩ := st.rc.at e
    rw [hc] at e1
    have ea' : a = a' := Option.some.inj e1
    subst ea'
    cases q with
    | @node _ _ vs _ _ ea f pa qs =>
      subst e2
      have ndF := st.nd
      refine ⟨a, vs, Fi, rfl, ea, f, qs, fun b hb => by simp only [List.mem_append, List.mem_cons] at hb ⊢; grind, ?_, fun {n' vs' xs' T' U'} nd hT fit rs' hU ndU => ?_⟩
      · simp only [List.nodup_append, List.mem_append, List.nodup_cons, List.mem_cons] at ndF ⊢; grind
      · have nea : ∀ b, b ∈ F ++ (F1 ++ F2) → b ≠ a := fun b hb z => by
          subst z
          simp only [List.nodup_append, List.mem_append, List.nodup_cons, List.mem_cons] at ndF hb; grind
        have same : ∀ b, b ∈ F ++ (F1 ++ F2) → upd H a (n'.ho vs') b = H b := fun b hb => upd_ne (nea b hb)
        have node' : RS K Φ (upd H a (n'.ho vs')) A (.ref a) (.node n' xs') (a :: U') := .node upd_same fit pa rs'
        have r1 := up (Φ' := Φ) (H' := upd H a (n'.ho vs')) (A' := A) (Same.refl _) Pfx.refl (fun b hb => same b (by simp only [List.mem_append] at hb ⊢; grind)) (fun b hb => (st.rc.there b (by simp only [List.mem_append] at hb ⊢; grind)).2) node'
        have leΦ : Same Φ (upd H a (n'.ho vs')) := fun b o eb => by
          have hb : b ≠ a := fun z => by subst z; rw [pa] at eb; cases eb
          rw [upd_ne hb]; exact st.le _ _ eb
        refine ⟨F1 ++ ((a :: U') ++ F2), ⟨leΦ, st.ro.frame (Same.refl _) Pfx.refl (fun b hb => same b (by simp [hb])) (fun b hb => (st.ro.there b hb).2), r1, ?_⟩, ⟨fun b o eb hf hg => ?_, Same.refl _, fun b o eb => .inl eb, fun b hb => ?_, fun b hb => ?_, Pfx.refl⟩⟩
        · have hU' : ∀ b ∈ U', b ∉ F ++ (F1 ++ F2) ∧ b ≠ a := fun b hb => by
            rcases hU b hb with h | h
            · simp only [List.nodup_append, List.mem_append, List.nodup_cons, List.mem_cons] at ndF ⊢; grind
            · simp only [List.nodup_append, List.mem_append, List.nodup_cons, List.mem_cons] at nd ⊢; grind
          simp only [List.nodup_append, List.mem_append, List.nodup_cons, List.mem_cons] at ndF hU' ⊢; grind
        · have hb : b ≠ a := fun z => by subst z; exact hg (by simp)
          rw [upd_ne hb]; exact eb
        · rcases hb with hb | hb
          · exact .inl (List.mem_append_right _ hb)
          · simp only [List.mem_append, List.mem_cons] at hb ⊢
            grind
        · by_cases z : b = a
          · subst z; rw [upd_same]; simp
          · rw [upd_ne z]; exact hb
end
noncomputable def pushAt (ro : R) (x : SV) (S : Sto) : Option Sto := match ro with
  | .bor i p => match S.sub i p with
    | some (.node .lst xs) => if xs.length < 1000000 then S.putp i p (.own (xs ++ [x])) else none
    | _ => none
  | _ => none
noncomputable def fAppend (fo fe : FE) : FS := bindS fo fun ro S1 => match ro.sv S1 with
  | some (.node .lst _) => bindS fe (fun re S2 => match re.kid S2 with
    | some (x, S3) => (pushAt ro x S3).map SO.nx
    | none => none) S1
  | _ => none
theorem ev_append {K : PySem.W.Frag} {W : WX} {to te : TE} {fo fe : FE} (ho : EV K W to fo) (he : EV K W te fe) :
    SEV K W (fun D σ H => to σ H fun x H1 => tyV K "list" x H1 ∧ te σ H1 fun y H2 => rAppend x [y] H2 fun _ H3 => D.nx σ H3) (fAppend fo fe) := fun S σ H Φ A F G st out h D q => by
  refine runS (t := to) ho st h q fun ro S1 v H1 Φ1 A1 T F1 G1 sp st1 rv nd h1 => ?_
  cases ex : ro.sv S1 with
  | none => rw [ex] at h1; cases h1
  | some x =>
    rw [ex] at h1
    cases x with
    | dat d => cases h1
    | cell c => cases h1
    | node n xs =>
      cases n <;> try cases h1
      obtain ⟨U, rs, _⟩ := rv.rs st1 ex
      have hty : tyV K "list" v H1 := by
        cases rs with
        | node ea f pa qs => exact .inl ⟨rfl, _, .inl (.inl ea)⟩
      refine ⟨hty, ?_⟩
      have h1 : bindS fe (fun re S2 => match re.kid S2 with
        | some (x, S3) => (pushAt ro x S3).map SO.nx
        | none => none) S1 = some out := h1
      unfold bindS at h1
      cases e2 : fe S1 with
      | none => rw [e2] at h1; cases h1
      | some o2 =>
        rw [e2] at h1
        have q1 := q.at sp.drop.run
        cases o2 with
        | exc x2 S2 => cases h1; exact he S1 σ H1 Φ1 A1 F1 G1 st1 _ e2 _ (XS.xp (σ := σ) q1)
        | ok re S2 =>
          refine he S1 σ H1 Φ1 A1 F1 G1 st1 _ e2 _ fun y H2 Φ2 A2 T2 F2 G2 sp2 st2 rv2 nd2 fz2 => ?_
          dsimp only at h1
          cases ek : re.kid S2 with
          | none => rw [ek] at h1; cases h1
          | some z =>
            obtain ⟨x3, S3⟩ := z
            rw [ek] at h1
            dsimp only at h1
            have ro2 := RV.step st1 rv nd sp2.drop fz2
            have ndo2 : (T ++ (F2 ++ G2)).Nodup := by
              have := sp2.apart (fun b hb => (rv.there b hb).1.ne) nd (by rw [List.append_assoc]; exact nd2)
              simp only [List.nodup_append, List.mem_append] at this ⊢; grind
            obtain ⟨Φ3, F3, sp3, st3, rs3, fz3⟩ := kid_ok st2 rv2 nd2 ek
            have ro3 := RV.step st2 ro2 ndo2 sp3 fz3
            have nd3 : (T2 ++ (F3 ++ G2)).Nodup := sp3.apart (fun b hb => (rv2.there b hb).1.ne) nd2 st3.nd
            cases ep : pushAt ro x3 S3 with
            | none => rw [ep] at h1; cases h1
            | some S4 =>
              rw [ep] at h1; cases h1
              unfold pushAt at ep
              cases ro with
              | val z => cases ep
              | bor i p =>
                dsimp only at ep
                cases es : S3.sub i p with
                | none => rw [es] at ep; cases ep
                | some z =>
                  rw [es] at ep
                  cases z with
                  | dat d => cases ep
                  | cell c => cases ep
                  | node n ys =>
                    cases n <;> try cases ep
                    dsimp only at ep
                    by_cases hl : ys.length < 1000000
                    · rw [if_pos hl] at ep
                      obtain ⟨a, vs, Fx, rfl, ea, f, qs, hF, ndx, up⟩ := mut_slot st3 es ro3
                      have hl' : vs.length < sizeLine := by rw [qs.length]; exact Nat.lt_of_lt_of_le hl (by rw [sizeLine_eq]; decide)
                      have nea : ∀ b, b ∈ Fx ++ T2 → b ≠ a := fun b hb z => by
                        subst z
                        rcases List.mem_append.mp hb with hb | hb
                        · exact (List.nodup_cons.mp ndx).1 hb
                        · exact (List.nodup_append.mp nd3).2.2 b hb b (List.mem_append_left _ (hF b (List.mem_cons_self ..))) rfl
                      have rs' : RSs K Φ3 (upd H2 a (Nd.lst.ho (vs ++ [y]))) A2 (vs ++ [y]) (ys ++ [x3]) (Fx ++ T2) :=
                        rss_snoc (qs.frame (Same.refl _) Pfx.refl (fun b hb => upd_ne (nea b (by simp [hb]))) (fun b hb => (qs.there b hb).2)) (rs3.frame (Same.refl _) Pfx.refl (fun b hb => upd_ne (nea b (by simp [hb]))) (fun b hb => (rs3.there b hb).2))
                      obtain ⟨F4, st4, rn4⟩ := up (n' := .lst) (T' := T2) nd3 (fun b hb => (rs3.there b hb).1.ne) ⟨trivial, trivial⟩ rs' (fun b hb => List.mem_append.mp hb) (by
                        have h1 := List.nodup_cons.mp ndx
                        refine List.nodup_append.mpr ⟨h1.2, (List.nodup_append.mp nd3).1, fun a ha b hb e => ?_⟩
                        subst e
                        exact (List.nodup_append.mp nd3).2.2 a hb a (List.mem_append_left _ (hF a (List.mem_cons_of_mem _ ha))) rfl) ep
                      have s23 : Step F1 G1 H1 Φ1 A1 (T2 ++ F3) G2 H2 Φ3 A2 := Step.trans (T1 := []) sp2 sp3
                      exact ⟨a, vs, y, rfl, rfl, ea, hl', q1 σ _ Φ3 A2 F4 G2 (s23.run.trans rn4) st4⟩
                    · rw [if_neg hl] at ep; cases ep
section
variable {X : Cx} {W : WX} {o e : Expr} {pos apos cpos : Pos} {to te : TE} {fo fe : FE}
theorem ds_append (ho : DE X W o to fo) (he : DE X W e te fe) (hs : swapsWith (.Call (.Attribute o "append" apos) [e] [] cpos) none pos.line X.env = pure false := by rfl)
    (hbase : attributeBase o "append" X.env (eval o X.env) = eval o X.env := by rfl)
    (hfew : ((backTo cpos (starEach [e] X.env)).all (fun x => !x.1) && (backToKw cpos (keywordEach [] X.env)).all (fun x => x.1.isSome)
      && decide ([e].length + ([] : List Keyword).length + (if ([] : List Keyword).isEmpty then 0 else 1) < 30)) = true := by rfl)
    (hline : (apos.endLine == cpos.line) = true := by rfl) (hst : starEach [e] X.env = (false, eval e X.env) :: starEach [] X.env := by rfl) (hplain : (backTo cpos (starEach [] X.env)).any (·.1) = false := by rfl) :
    DS X W (.Expr (.Call (.Attribute o "append" apos) [e] [] cpos) pos) (tDrop (tBM X.K "list" rAppend to (tCons te tNil))) (fAppend fo fe) :=
  ⟨ps_expr (pe_bm PySem.F.plainAttrs_list PySem.F.slot_list_append PySem.F.type_list_append mt_append ho.pe (pa_cons he.pe pa_nil hst) hbase hfew hline hst hplain) hs, ev_append ho.ev he.ev⟩
end
noncomputable def putKs {κ α : Type} [DecidableEq κ] (k : κ) (x : α) : List κ → List α → List κ × List α
  | j :: ks, y :: xs => if j = k then (j :: ks, x :: xs) else (j :: (putKs k x ks xs).1, y :: (putKs k x ks xs).2)
  | _, _ => ([k], [x])
noncomputable def putNd (n : Nd) (xs : List SV) (k : D) (x : SV) : Option (Nd × List SV) := match n with
  | .lst => (intOf k).bind fun i => (ixN xs.length i).map fun j => (.lst, xs.set j x)
  | .dK ks => (k.key).bind fun k => if ks.length < 1000000 then some (.dK (putKs k x ks xs).1, (putKs k x ks xs).2) else none
  | .dT ks => match k with
    | .tup ds => (keysD ds).bind fun k => if ks.length < 1000000 then some (.dT (putKs k x ks xs).1, (putKs k x ks xs).2) else none
    | _ => none
  | _ => none
noncomputable def storeAt (ro : R) (k : D) (x : SV) (S : Sto) : Option Sto := match ro.sv S with
  | some (.cell c) => match S.μ[c]? with
    | some (.node n xs) => (putNd n xs k x).map fun z => S.cellp c (.node z.1 z.2)
    | _ => none
  | some (.node n xs) => match ro with
    | .bor i p => (putNd n xs k x).bind fun z => S.putp i p (.node z.1 z.2)
    | .val _ => none
  | _ => none
noncomputable def fStore (fo fi fe : FE) : FS := bindS fe fun re => bindS fo fun ro => bindS fi fun ri S => match re.kid S with
  | some (x, S1) => (ri.peek S1).bind fun k => (storeAt ro k x S1).map SO.nx
  | none => none
noncomputable def rStore : V → V → V → Hp → (Hp → Prop) → Prop := fun o i v H Q => rSetL o i v H Q ∨ ∃ a H', o = .ref a ∧ DPut H a i v H' ∧ Q H'
theorem set_store {X : Cx} (hu : X.A.units + 1 < cLine) : PSet X rStore := by
  intro pins s σ H o i v ov iv u Q I ro ri rv h
  rcases h with h | ⟨a, H', rfl, dp, q⟩
  · exact set_list pins s σ H o i v ov iv u Q I ro ri rv h
  · cases ro
    exact d_setItem hu I dp ri rv fun s' I' => ⟨H', I', q⟩
theorem rss_set {K : PySem.W.Frag} {Φ H : Hp} {A : List Addr} {vs : List V} {xs : List SV} {U T : List Addr} {j : Nat} {v : V} {x : SV} (h : RSs K Φ H A vs xs U) (hj : j < xs.length) (q : RS K Φ H A v x T) (ndU : U.Nodup) (nd : ∀ b ∈ T, b ∉ U) (ndT : T.Nodup) :
    ∃ U', RSs K Φ H A (vs.set j v) (xs.set j x) U' ∧ (∀ b ∈ U', b ∈ U ∨ b ∈ T) ∧ U'.Nodup := by
  obtain ⟨w, E1, Ei, E2, e1, e2, q0, up⟩ := RSs.at h (List.getElem?_eq_getElem hj)
  subst e2
  refine ⟨E1 ++ (T ++ E2), up (Same.refl _) Pfx.refl (fun _ _ => rfl) (fun b hb => (h.there b (by simp only [List.mem_append] at hb ⊢; grind)).2) q, fun b hb => by simp only [List.mem_append] at hb ⊢; grind, ?_⟩
  simp only [List.nodup_append, List.mem_append] at ndU nd ⊢; grind
theorem putKs_keys {κ α β : Type} [DecidableEq κ] {k : κ} {x : α} {y : β} : ∀ {ks : List κ} {xs : List α} {ys : List β}, ks.length = xs.length → ks.length = ys.length → (putKs k x ks xs).1 = (putKs k y ks ys).1
  | [], [], [], _, _ => rfl
  | j :: ks, a :: xs, b :: ys, h1, h2 => by
    rw [putKs, putKs]
    by_cases e : j = k
    · rw [if_pos e, if_pos e]
    · rw [if_neg e, if_neg e, putKs_keys (ks := ks) (xs := xs) (ys := ys) (by simpa using h1) (by simpa using h2)]
  | [], _ :: _, _, h, _ => by simp at h
  | [], [], _ :: _, _, h => by simp at h
  | _ :: _, [], _, h, _ => by simp at h
  | _ :: _, _ :: _, [], _, h => by simp at h
theorem putKs_mem {κ α : Type} [DecidableEq κ] {k : κ} {x : α} : ∀ {ks : List κ} {xs : List α} {j : κ}, ks.length = xs.length → j ∈ (putKs k x ks xs).1 → j ∈ ks ∨ j = k
  | [], [], j, _, h => by simp [putKs] at h; exact .inr h
  | i :: ks, a :: xs, j, hl, h => by
    rw [putKs] at h
    by_cases e : i = k
    · rw [if_pos e] at h; exact .inl h
    · rw [if_neg e] at h
      rcases List.mem_cons.mp h with h | h
      · exact .inl (by simp [h])
      · exact (putKs_mem (by simpa using hl) h).imp_left (List.mem_cons_of_mem _)
  | [], _ :: _, _, h, _ => by simp at h
  | _ :: _, [], _, h, _ => by simp at h
theorem putKs_nodup {κ α : Type} [DecidableEq κ] {k : κ} {x : α} : ∀ {ks : List κ} {xs : List α}, ks.length = xs.length → ks.Nodup → (putKs k x ks xs).1.Nodup
  | [], [], _, _ => by simp [putKs]
  | i :: ks, a :: xs, hl, h => by
    rw [putKs]
    by_cases e : i = k
    · rw [if_pos e]; exact h
    · rw [if_neg e]
      refine List.nodup_cons.mpr ⟨fun hm => ?_, putKs_nodup (by simpa using hl) (List.nodup_cons.mp h).2⟩
      rcases putKs_mem (by simpa using hl) hm with hm | hm
      · exact (List.nodup_cons.mp h).1 hm
      · exact e hm
  | [], _ :: _, h, _ => by simp at h
  | _ :: _, [], h, _ => by simp at h
theorem putKs_len {κ α : Type} [DecidableEq κ] {k : κ} {x : α} : ∀ {ks : List κ} {xs : List α}, ks.length = xs.length → (putKs k x ks xs).1.length = (putKs k x ks xs).2.length
  | [], [], _ => rfl
  | i :: ks, a :: xs, hl => by
    rw [putKs]
    by_cases e : i = k
    · rw [if_pos e]; exact hl
    · rw [if_neg e]; exact congrArg (· + 1) (putKs_len (by simpa using hl))
  | [], _ :: _, h => by simp at h
  | _ :: _, [], h => by simp at h
theorem zip_put {κ : Type} [DecidableEq κ] {k : κ} {v : V} : ∀ {ks : List κ} {vs : List V}, ks.length = vs.length → ks.Nodup → putK (ks.zip vs) k v = (putKs k v ks vs).1.zip (putKs k v ks vs).2
  | [], [], _, _ => rfl
  | j :: ks, w :: vs, hl, nd => by
    have ih := zip_put (k := k) (v := v) (ks := ks) (vs := vs) (by simpa using hl) (List.nodup_cons.mp nd).2
    rw [List.zip_cons_cons, putKs]
    by_cases e : j = k
    · subst e
      rw [if_pos rfl, List.zip_cons_cons]
      unfold putK
      rw [if_pos (by simp), List.map_cons, if_pos rfl]
      congr 1
      conv => rhs; rw [← List.map_id (ks.zip vs)]
      apply List.map_congr_left
      intro p hp
      have : p.1 ∈ ks := (List.of_mem_zip hp).1
      rw [if_neg (fun z => (List.nodup_cons.mp nd).1 (by rw [← z]; exact this))]; rfl
    · rw [if_neg e, List.zip_cons_cons, ← ih]
      unfold putK
      have e1 : (((j, w) :: ks.zip vs).any fun kv => decide (kv.1 = k)) = (ks.zip vs).any fun kv => decide (kv.1 = k) := by simp [e]
      rw [e1]
      split
      · rw [List.map_cons, if_neg e]
      · rfl
  | [], _ :: _, h, _ => by simp at h
  | _ :: _, [], h, _ => by simp at h
theorem rss_put {K : PySem.W.Frag} {Φ H : Hp} {A : List Addr} {κ : Type} [DecidableEq κ] {k : κ} {v : V} {x : SV} {T : List Addr} (q : RS K Φ H A v x T) (ndT : T.Nodup) : ∀ {ks : List κ} {vs : List V} {xs : List SV} {U : List Addr}, ks.length = vs.length → RSs K Φ H A vs xs U → U.Nodup → (∀ b ∈ T, b ∉ U) →
    ∃ U', RSs K Φ H A (putKs k v ks vs).2 (putKs k x ks xs).2 U' ∧ (∀ b ∈ U', b ∈ U ∨ b ∈ T) ∧ U'.Nodup := by
  intro ks
  induction ks with
  | nil =>
    intro vs xs U hl h ndU nd
    cases h with
    | nil => exact ⟨T ++ [], .cons q .nil, fun b hb => .inr (by simpa using hb), by simpa using ndT⟩
    | cons => simp at hl
  | cons j ks ih =>
    intro vs xs U hl h ndU nd
    cases h with
    | nil => simp at hl
    | cons r rs =>
      rename_i w vs y xs F0 G0
      rw [putKs, putKs]
      by_cases e : j = k
      · rw [if_pos e, if_pos e]
        refine ⟨T ++ G0, .cons q rs, fun b hb => by simp only [List.mem_append] at hb ⊢; grind, ?_⟩
        simp only [List.nodup_append, List.mem_append] at ndU nd ⊢; grind
      · rw [if_neg e, if_neg e]
        obtain ⟨U', r2, h2, n2⟩ := ih (by simpa using hl) rs (List.nodup_append.mp ndU).2.1 (fun b hb z => nd b hb (List.mem_append_right _ z))
        refine ⟨F0 ++ U', .cons r r2, fun b hb => ?_, ?_⟩
        · rcases List.mem_append.mp hb with hb | hb
          · exact .inl (List.mem_append_left _ hb)
          · exact (h2 b hb).imp_left (List.mem_append_right _)
        · simp only [List.nodup_append, List.mem_append] at ndU nd ⊢; grind
end L3
namespace L3
open PySem PySem.Spec PyProof.Rows L2
section
variable {K : PySem.W.Frag} {W : WX} {S S' : Sto} {σ : Sl} {H Φ : Hp} {A F G T Fx : List Addr} {v w iv : V}
theorem put_nd {a : Addr} {n n' : Nd} {vs : List V} {xs xs' : List SV} {x : SV} {kd : D} (ea : H a = some (n.ho vs)) (f : n.fits vs.length) (qs : RSs K Φ H A vs xs Fx) (ri : Rp K H iv kd) (q : RS K Φ H A v x T)
    (ndx : (a :: Fx).Nodup) (ndT : T.Nodup) (nd : ∀ b ∈ T, b ∉ a :: Fx) (e : putNd n xs kd x = some (n', xs')) :
    ∃ vs' U', (∀ Q : Hp → Prop, Q (upd H a (n'.ho vs')) → rStore (.ref a) iv v H Q) ∧ n'.fits vs'.length ∧ RSs K Φ (upd H a (n'.ho vs')) A vs' xs' U' ∧ (∀ b ∈ U', b ∈ Fx ∨ b ∈ T) ∧ U'.Nodup := by
  have nea : ∀ {ho : HO} (b : Addr), (b ∈ Fx ∨ b ∈ T) → upd H a ho b = H b := fun b hb => upd_ne fun z => by
    subst z
    rcases hb with hb | hb
    · exact (List.nodup_cons.mp ndx).1 hb
    · exact nd b hb (List.mem_cons_self ..)
  have fr : ∀ {ho : HO} {ys : List V} {zs : List SV} {U : List Addr}, RSs K Φ H A ys zs U → (∀ b ∈ U, b ∈ Fx ∨ b ∈ T) → RSs K Φ (upd H a ho) A ys zs U := fun r h => r.frame (Same.refl _) Pfx.refl (fun b hb => nea b (h b hb)) fun b hb => (r.there b hb).2
  cases n with
  | lst =>
    cases ei : intOf kd with
    | none => simp only [putNd, ei] at e; cases e
    | some i =>
      have := intOf_some ei
      subst this
      simp only [putNd, ei] at e
      cases ej : ixN xs.length i with
      | none => rw [Option.bind_some, ej] at e; cases e
      | some j =>
        rw [Option.bind_some, ej] at e; cases e
        have hj : j < xs.length := (ixN_seq ej).2.1
        obtain ⟨U', r1, h1, n1⟩ := rss_set qs hj q (List.nodup_cons.mp ndx).2 (fun b hb z => nd b hb (List.mem_cons_of_mem _ z)) ndT
        cases ri
        exact ⟨vs.set j v, U', fun Q z => .inl ⟨a, vs, i, j, rfl, rfl, ea, by rw [qs.length]; exact ej, z⟩, ⟨trivial, trivial⟩, fr r1 h1, h1, n1⟩
  | dK ks =>
    cases ek : kd.key with
    | none => simp only [putNd, ek] at e; cases e
    | some k =>
      simp only [putNd, ek, Option.bind_some] at e
      by_cases hl : ks.length < 1000000
      · rw [if_pos hl] at e; cases e
        have eiv := key_rp ri ek
        subst eiv
        have fl : ks.length = vs.length := f.1
        obtain ⟨U', r1, h1, n1⟩ := rss_put (k := k) q ndT fl qs (List.nodup_cons.mp ndx).2 (fun b hb z => nd b hb (List.mem_cons_of_mem _ z))
        have eks : (putKs k v ks vs).1 = (putKs k x ks xs).1 := putKs_keys fl (by rw [fl, qs.length])
        have eho : (Nd.dK (putKs k x ks xs).1).ho (putKs k v ks vs).2 = .dK (putK (ks.zip vs) k v) := by
          rw [zip_put fl f.2, ← eks]; rfl
        refine ⟨(putKs k v ks vs).2, U', fun Q z => .inr ⟨a, _, rfl, DPut.k ea ?_ , by rw [eho] at z; exact z⟩, ⟨?_, ?_⟩, fr r1 h1, h1, n1⟩
        · rw [List.length_zip, ← fl, Nat.min_self]; exact Nat.lt_of_lt_of_le hl (by rw [sizeLine_eq]; decide)
        · show (putKs k x ks xs).1.length = _
          rw [← eks]; exact putKs_len fl
        · show (putKs k x ks xs).1.Nodup
          rw [← eks]; exact putKs_nodup fl f.2
      · rw [if_neg hl] at e; cases e
  | dT ks =>
    cases kd <;> try (simp only [putNd] at e; cases e)
    rename_i ds
    cases ek : keysD ds with
    | none => simp only [putNd, ek] at e; cases e
    | some k =>
      simp only [putNd, ek, Option.bind_some] at e
      by_cases hl : ks.length < 1000000
      · rw [if_pos hl] at e; cases e
        cases ri with
        | @tup b ws _ sq rr =>
          have eiv := keys_rps rr ek
          subst eiv
          have fl : ks.length = vs.length := f.1
          obtain ⟨U', r1, h1, n1⟩ := rss_put (k := k) q ndT fl qs (List.nodup_cons.mp ndx).2 (fun b hb z => nd b hb (List.mem_cons_of_mem _ z))
          have eks : (putKs k v ks vs).1 = (putKs k x ks xs).1 := putKs_keys fl (by rw [fl, qs.length])
          have eho : (Nd.dT (putKs k x ks xs).1).ho (putKs k v ks vs).2 = .dT (putK (ks.zip vs) k v) := by
            rw [zip_put fl f.2, ← eks]; rfl
          refine ⟨(putKs k v ks vs).2, U', fun Q z => .inr ⟨a, _, rfl, .inr ⟨_, k, b, ea, rfl, sq, ?_, rfl⟩, by rw [eho] at z; exact z⟩, ⟨?_, ?_⟩, fr r1 h1, h1, n1⟩
          · rw [List.length_zip, ← fl, Nat.min_self]; exact Nat.lt_of_lt_of_le hl (by rw [sizeLine_eq]; decide)
          · show (putKs k x ks xs).1.length = _
            rw [← eks]; exact putKs_len fl
          · show (putKs k x ks xs).1.Nodup
            rw [← eks]; exact putKs_nodup fl f.2
      · rw [if_neg hl] at e; cases e
  | ins C dx ks => simp only [putNd] at e; cases e
theorem runS2 {t : TE} {f : FE} {k : R → FS} {out : SO} {D : Ends} {P : VK} (hf : EV K W t f) (st : Stands K S σ H Φ A F G) (h : bindS f k S = some out) (q : PostS K W F G H Φ A D out)
    (hk : ∀ r S1 v H1 Φ1 A1 T F1 G1, Step F G H Φ A (T ++ F1) G1 H1 Φ1 A1 → Stands K S1 σ H1 Φ1 A1 F1 G1 → RV K Φ1 H1 A1 S1 σ v r T → (T ++ (F1 ++ G1)).Nodup → Frz S S1 → PostS K W F1 G1 H1 Φ1 A1 D out → k r S1 = some out → P v H1) : t σ H P := by
  unfold bindS at h
  cases e : f S with
  | none => rw [e] at h; cases h
  | some o =>
    rw [e] at h
    cases o with
    | ok r S1 => exact hf S σ H Φ A F G st _ e P fun v H' Φ' A' T F' G' sp st' rv nd fz => hk r S1 v H' Φ' A' T F' G' sp st' rv nd fz (q.at sp.drop.run) h
    | exc x S1 => cases h; exact hf S σ H Φ A F G st _ e P (XS.xp q)
theorem RV.nd (h : RV K Φ H A S σ v r T) (nd : (T ++ (F ++ G)).Nodup) {F1 G1 H1 Φ1 A1 U} (sp : Step F G H Φ A (U ++ F1) G1 H1 Φ1 A1) (nd1 : (U ++ (F1 ++ G1)).Nodup) : (T ++ (U ++ (F1 ++ G1))).Nodup := by
  have := sp.apart (fun b hb => (h.there b hb).1.ne) nd (by rw [List.append_assoc]; exact nd1)
  simpa [List.append_assoc] using this
theorem nd_mid {T U V : List Addr} (h : (T ++ (U ++ V)).Nodup) : (T ++ V).Nodup := by
  simp only [List.nodup_append, List.mem_append] at h ⊢; grind
theorem ev_store {to ti te : TE} {fo fi fe : FE} (ho : EV K W to fo) (hi : EV K W ti fi) (he : EV K W te fe) : SEV K W (tAsg te (gSub to ti rStore)) (fStore fo fi fe) := fun S σ H Φ A F G st out h D q => by
  refine runS2 (t := te) he st h q fun re S1 v H1 Φ1 A1 T F1 G1 sp1 st1 rv1 nd1 fz1 q1 h1 => ?_
  refine runS2 (t := to) ho st1 h1 q1 fun ro S2 o H2 Φ2 A2 U F2 G2 sp2 st2 rv2 nd2 fz2 q2 h2 => ?_
  refine runS2 (t := ti) hi st2 h2 q2 fun ri S3 i H3 Φ3 A3 Y F3 G3 sp3 st3 rv3 nd3 fz3 q3 h3 => ?_
  have rv1' := (rv1.step st1 nd1 sp2.drop fz2).step st2 (nd_mid (rv1.nd nd1 sp2 nd2)) sp3.drop fz3
  have nd1' := nd_mid ((rv1.step st1 nd1 sp2.drop fz2).nd (nd_mid (rv1.nd nd1 sp2 nd2)) sp3 nd3)
  have rv2' := rv2.step st2 nd2 sp3.drop fz3
  have nd2' := nd_mid (rv2.nd nd2 sp3 nd3)
  cases ek : re.kid S3 with
  | none => rw [ek] at h3; cases h3
  | some z =>
    obtain ⟨x, S4⟩ := z
    rw [ek] at h3
    dsimp only at h3
    obtain ⟨Φ4, F4, sp4, st4, rs4, fz4⟩ := kid_ok st3 rv1' nd1' ek
    have nd4 := sp4.apart (fun b hb => (rv1'.there b hb).1.ne) nd1' st4.nd
    have ro4 := rv2'.step st3 nd2' sp4 fz4
    have ri4 := rv3.step st3 nd3 sp4 fz4
    cases ei : ri.peek S4 with
    | none => rw [ei] at h3; cases h3
    | some kd =>
      rw [ei, Option.bind_some] at h3
      have rpi := ri4.rp st4 ei
      have q4 := q3.at sp4.run
      cases es : storeAt ro kd x S4 with
      | none => rw [es] at h3; cases h3
      | some S5 =>
        rw [es] at h3; cases h3
        unfold storeAt at es
        cases ex : ro.sv S4 with
        | none => rw [ex] at es; cases es
        | some y =>
          rw [ex] at es
          cases y with
          | dat d => cases es
          | cell c =>
            dsimp only at es
            obtain ⟨U2, rs2, _⟩ := ro4.rs st4 ex
            cases eμ : S4.μ[c]? with
            | none => rw [eμ] at es; cases es
            | some z =>
              rw [eμ] at es
              cases z with
              | dat d => cases es
              | cell c => cases es
              | node n xs =>
                dsimp only at es
                cases ep : putNd n xs kd x with
                | none => rw [ep] at es; cases es
                | some z =>
                  obtain ⟨n', xs'⟩ := z
                  rw [ep] at es; cases es
                  obtain ⟨a, vs, Fx, rfl, ea, f, qs, hF, ndx, up⟩ := mut_cell st4 eμ rs2
                  have ndT := (List.nodup_append.mp nd4).1
                  obtain ⟨vs', U', hs, f', r', hU, ndU⟩ := put_nd ea f qs rpi rs4 ndx ndT (fun b hb z => (List.nodup_append.mp nd4).2.2 b hb b (List.mem_append_right _ (hF b z)) rfl) ep
                  obtain ⟨G', st5, rn5⟩ := up nd4 (fun b hb => (rs4.there b hb).1.ne) f' r' hU ndU
                  refine hs _ (q _ _ _ _ _ _ ?_ st5)
                  have s14 : Step F1 G1 H1 Φ1 A1 F4 G3 H3 Φ4 A3 := (sp2.drop.trans0 sp3.drop).trans0 sp4
                  have s04 : Step F G H Φ A (T ++ F4) G3 H3 Φ4 A3 := Step.trans (T1 := []) sp1 s14
                  exact s04.run.trans rn5
          | node n xs =>
            cases ro with
            | val z => cases es
            | bor j p =>
              dsimp only at es
              cases ep : putNd n xs kd x with
              | none => rw [ep] at es; cases es
              | some z =>
                obtain ⟨n', xs'⟩ := z
                rw [ep, Option.bind_some] at es
                obtain ⟨a, vs, Fx, rfl, ea, f, qs, hF, ndx, up⟩ := mut_slot st4 ex ro4
                have ndT := (List.nodup_append.mp nd4).1
                obtain ⟨vs', U', hs, f', r', hU, ndU⟩ := put_nd ea f qs rpi rs4 ndx ndT (fun b hb z => (List.nodup_append.mp nd4).2.2 b hb b (List.mem_append_left _ (hF b z)) rfl) ep
                obtain ⟨F', st5, rn5⟩ := up nd4 (fun b hb => (rs4.there b hb).1.ne) f' r' hU ndU es
                refine hs _ (q _ _ _ _ _ _ ?_ st5)
                have s14 : Step F1 G1 H1 Φ1 A1 F4 G3 H3 Φ4 A3 := (sp2.drop.trans0 sp3.drop).trans0 sp4
                have s04 : Step F G H Φ A (T ++ F4) G3 H3 Φ4 A3 := Step.trans (T1 := []) sp1 s14
                exact s04.run.trans rn5
end
section
variable {X : Cx} {W : WX} {o i e : Expr} {pos apos : Pos} {to ti te : TE} {fo fi fe : FE}
theorem ds_store (hu : X.A.units + 1 < cLine) (he : DE X W e te fe) (ho : DE X W o to fo) (hi : DE X W i ti fi) (hs : swapsWithSole [.Subscript o i apos] e pos.line X.env = pure false := by rfl) (hw : swappedStores [.Subscript o i apos] e X.env = pure none := by rfl)
    (h1 : (assignEach [.Subscript o i apos] X.env).map (·.2) = [assign (.Subscript o i apos) X.env] := by rfl)
    (ha : ∀ v, assign (.Subscript o i apos) X.env v = (do
      let ov ← holding [v] (eval o X.env)
      let iv ← holding [v, ov] (eval i X.env)
      standAt apos
      holding [v, ov, iv] (setItem ov iv v)
      release [v, ov, iv] []) := by intro _; rfl) :
    DS X W (.Assign [.Subscript o i apos] e pos) (tAsg te (gSub to ti rStore)) (fStore fo fi fe) :=
  ⟨ps_asg he.pe (pg_sub ho.pe hi.pe (set_store hu) ha) hs hw h1, ev_store ho.ev hi.ev he.ev⟩
end
end L3
namespace L3
open PySem PySem.Spec PyProof.Rows L2
noncomputable def fPairs : List (FE × FE) → Sto → Option (Out (List (Key × R)))
  | [] => retE []
  | (fk, fv) :: r => bindE fk fun rk S1 => match (rk.peek S1).bind D.key with
    | some k => bindE fv (fun rv => bindE (fPairs r) fun ps => retE ((k, rv) :: ps)) S1
    | none => none
noncomputable def PostP (K : PySem.W.Frag) (W : WX) (S : Sto) (σ : Sl) (H Φ : Hp) (A F G : List Addr) (Q : List (V × V) → Hp → Prop) : Out (List (Key × R)) → Prop
  | .ok kr S' => ∀ ps H' Φ' A' T F' G', Step F G H Φ A (T ++ F') G' H' Φ' A' → Stands K S' σ H' Φ' A' F' G' → ps.map (·.1) = kr.map (fun x => kV x.1) → RVs K Φ' H' A' S' σ (ps.map (·.2)) (kr.map (·.2)) T → (T ++ (F' ++ G')).Nodup → Frz S S' → Q ps H'
  | .exc e S' => XP K W S σ H Φ A F G e S'
inductive EVPs (K : PySem.W.Frag) (W : WX) : List (TE × TE) → List (FE × FE) → Prop
  | nil : EVPs K W [] []
  | cons {tk tv : TE} {fk fv : FE} {r : List (TE × TE)} {q : List (FE × FE)} : EV K W tk fk → EV K W tv fv → EVPs K W r q → EVPs K W ((tk, tv) :: r) ((fk, fv) :: q)
section
variable {K : PySem.W.Frag} {W : WX}
theorem EVPs.go {trs : List (TE × TE)} {fps : List (FE × FE)} (h : EVPs K W trs fps) : ∀ {S : Sto} {σ : Sl} {H Φ : Hp} {A F G : List Addr}, Stands K S σ H Φ A F G → ∀ {out}, fPairs fps S = some out → ∀ {Q}, PostP K W S σ H Φ A F G Q out → tPairs trs σ H Q := by
  induction h with
  | nil =>
    intro S σ H Φ A F G st out e Q q
    cases e
    exact q [] H Φ A [] F G .refl st rfl .nil (by simpa using st.nd) .refl
  | @cons tk tv fk fv r qq hk hv hr ih =>
    intro S σ H Φ A F G st out e Q q
    have qx : ∀ e S', out = .exc e S' → XP K W S σ H Φ A F G e S' := fun e S' eo => by subst eo; exact q
    refine run1 (t := tk) hk st e qx fun rk S1 x H1 Φ1 A1 T F1 G1 sp st1 rv nd fz h1 => ?_
    cases ek : (rk.peek S1).bind D.key with
    | none => rw [ek] at h1; cases h1
    | some k =>
      rw [ek] at h1
      obtain ⟨d, e1, e2⟩ : ∃ d, rk.peek S1 = some d ∧ d.key = some k := by
        cases e0 : rk.peek S1 with
        | none => rw [e0] at ek; cases ek
        | some d => exact ⟨d, rfl, by rw [e0] at ek; exact ek⟩
      have ex := key_rp (rv.rp st1 e1) e2
      subst ex
      dsimp only at h1
      refine run1 (t := tv) hv st1 h1 (fun e S' eo => (qx e S' eo).at sp fz) fun rw S2 y H2 Φ2 A2 U F2 G2 sp2 st2 rv2 nd2 fz2 h2 => ?_
      unfold bindE at h2
      have sp02 : Step F G H Φ A (U ++ F2) G2 H2 Φ2 A2 := Step.trans (T := []) sp.drop sp2
      cases e3 : fPairs qq S2 with
      | none => rw [e3] at h2; cases h2
      | some o =>
        rw [e3] at h2
        cases o with
        | exc x S3 => cases h2; exact ih st2 e3 ((qx x S3 rfl).at sp02 (fz.trans fz2))
        | ok ps S3 =>
          cases h2
          refine ih st2 e3 fun pv H3 Φ3 A3 Y F3 G3 sp3 st3 ek rvs nd3 fz3 => ?_
          have rv2' := rv2.step st2 nd2 sp3.drop fz3
          have nd4 := rv2.nd nd2 sp3 nd3
          exact q ((kV k, y) :: pv) H3 Φ3 A3 (U ++ Y) F3 G3 (by rw [List.append_assoc]; exact sp02.trans sp3) st3 (by rw [List.map_cons, List.map_cons, ek]) (.cons rv2' rvs) (by simpa [List.append_assoc] using nd4) ((fz.trans fz2).trans fz3)
noncomputable def fDisp (fps : List (FE × FE)) : FE := bindE (fPairs fps) fun kr S => if (kr.map (·.1)).Nodup ∧ kr.length ≤ 15 then (kids (kr.map (·.2)) S).map fun z => .ok (.val (.node (.dK (kr.map (·.1))) z.1)) z.2 else none
theorem merge_nodup : ∀ {more kvs : List (Key × V)}, ((kvs ++ more).map (·.1)).Nodup → mergeK kvs more = kvs ++ more
  | [], kvs, _ => by rw [List.append_nil]; rfl
  | p :: r, kvs, h => by
    have e : putK kvs p.1 p.2 = kvs ++ [p] := by
      unfold putK
      rw [if_neg]
      intro z
      obtain ⟨q, hq, e⟩ := List.any_eq_true.mp z
      have e : q.1 = p.1 := by simpa using e
      rw [List.map_append] at h
      exact (List.nodup_append.mp h).2.2 q.1 (List.mem_map_of_mem hq) p.1 (List.mem_map_of_mem (List.mem_cons_self ..)) e
    show mergeK (putK kvs p.1 p.2) r = _
    rw [e, merge_nodup (by simpa using h)]
    simp
theorem new_node {S : Sto} {σ : Sl} {H Φ : Hp} {A F G : List Addr} {p : Addr} {n : Nd} {vs : List V} {xs : List SV} {U : List Addr} (st : Stands K S σ H Φ A F G) (q : RSs K Φ H A vs xs U) (nd : (U ++ (F ++ G)).Nodup) (hp : ∀ b ∈ U ++ (F ++ G), b ≠ p) (hΦ : Φ p = none) (fit : n.fits vs.length) :
    Stands K S σ (upd H p (n.ho vs)) Φ A F G ∧ RS K Φ (upd H p (n.ho vs)) A (.ref p) (.node n xs) (p :: U) ∧ ((p :: U) ++ (F ++ G)).Nodup := by
  have same : ∀ b ∈ U ++ (F ++ G), upd H p (n.ho vs) b = H b := fun b hb => upd_ne (hp b hb)
  refine ⟨⟨fun b o e => ?_, st.ro.frame (Same.refl _) Pfx.refl (fun b hb => same b (by simp [hb])) (fun b hb => (st.ro.there b hb).2), st.rc.frame (Same.refl _) Pfx.refl (fun b hb => same b (by simp [hb])) (fun b hb => (st.rc.there b hb).2), st.nd⟩,
    .node upd_same fit hΦ (q.frame (Same.refl _) Pfx.refl (fun b hb => same b (by simp [hb])) fun b hb => (q.there b hb).2), ?_⟩
  · rw [upd_ne (fun z => by subst z; rw [hΦ] at e; cases e)]; exact st.le _ _ e
  · rw [List.cons_append]
    exact List.nodup_cons.mpr ⟨fun hb => hp p hb rfl, nd⟩
theorem ev_disp {trs : List (TE × TE)} {fps : List (FE × FE)} (h : EVPs K W trs fps) : EV K W (tDisp trs) (fDisp fps) := fun S σ H Φ A F G st out ho Q q => by
  intro p hp
  have hΦ : Φ p = none := by
    cases e : Φ p with
    | none => rfl
    | some o => have := st.le _ _ e; rw [hp] at this; cases this
  have no : ∀ b ∈ F ++ G, b ≠ p := fun b hb z => by
    subst z
    rcases List.mem_append.mp hb with hb | hb
    · exact (st.ro.there b hb).1.ne hp
    · exact (st.rc.there b hb).1.ne hp
  obtain ⟨st1, _, _⟩ := new_node (n := .dK []) (vs := []) (xs := []) st .nil (by simpa using st.nd) (by simpa using no) hΦ ⟨rfl, List.nodup_nil⟩
  have st1 : Stands K S σ (upd H p (.dK [])) Φ A F G := st1
  have sp1 : Step F G H Φ A F G (upd H p (.dK [])) Φ A := ⟨fun b o e _ => upd_same' hp _ _ e, fun _ _ e => e, fun _ _ e => .inl e, fun _ h => .inl h, fun _ h => .inl h, fun b hb => by
    by_cases e : b = p
    · subst e; rw [upd_same]; simp
    · rw [upd_ne e]; exact hb, Pfx.refl⟩
  unfold fDisp bindE at ho
  cases e1 : fPairs fps S with
  | none => rw [e1] at ho; cases ho
  | some o =>
    rw [e1] at ho
    cases o with
    | exc x S1 => cases ho; exact h.go st1 e1 (XP.at (T := []) (q.x x S1 rfl) sp1 .refl)
    | ok kr S1 =>
      refine h.go st1 e1 fun ps H2 Φ2 A2 T F2 G2 sp2 st2 eks rvs nd2 fz2 => ?_
      dsimp only at ho
      by_cases hc : (kr.map (·.1)).Nodup ∧ kr.length ≤ 15
      · rw [if_pos hc] at ho
        cases e3 : kids (kr.map (·.2)) S1 with
        | none => rw [e3] at ho; cases ho
        | some z =>
          obtain ⟨xs, S3⟩ := z
          rw [e3] at ho; cases ho
          obtain ⟨Φ3, F3, sp3, st3, rs3, fz3⟩ := kids_ok st2 rvs nd2 e3
          have hpG : p ∉ G := fun hb => no p (List.mem_append_right _ hb) rfl
          have hpF : p ∉ F := fun hb => no p (List.mem_append_left _ hb) rfl
          have hp2 : H2 p = some (.dK []) := sp2.keep p _ upd_same hpG
          have s13 : Step F G (upd H p (.dK [])) Φ A (T ++ F3) G2 H2 Φ3 A2 := Step.trans (T1 := []) sp2 sp3
          have pown : p ∉ (T ++ F3) ∧ p ∉ G2 := by
            refine ⟨fun hb => ?_, fun hb => ?_⟩
            · rcases s13.ownF p hb with h | h | h
              · exact hpF h
              · exact hpG h
              · rw [upd_same] at h; cases h
            · rcases s13.ownG p hb with h | h
              · exact hpG h
              · rw [upd_same] at h; cases h
          have hΦ3 : Φ3 p = none := by
            cases e : Φ3 p with
            | none => rfl
            | some o =>
              rcases s13.grow p o e with h | h | h | h
              · rw [hΦ] at h; cases h
              · exact absurd h hpF
              · exact absurd h hpG
              · exact (h.no ⟨.dK [], [], upd_same⟩).elim
          have nd3 : (T ++ (F3 ++ G2)).Nodup := sp3.apart (fun b hb => (rvs.there b hb).1.ne) nd2 st3.nd
          have lk : kr.length = (ps.map (·.2)).length := by
            have := congrArg List.length eks
            simpa using this.symm
          have fit : (Nd.dK (kr.map (·.1))).fits (ps.map (·.2)).length := ⟨by show (kr.map (·.1)).length = _; rw [List.length_map]; exact lk, hc.1⟩
          obtain ⟨st4, r4, nd4⟩ := new_node (n := .dK (kr.map (·.1))) st3 rs3 nd3 (fun b hb z => by
            subst z
            simp only [List.mem_append] at hb pown; grind) hΦ3 fit
          have eps : ps = ((kr.map (·.1)).zip (ps.map (·.2))).map (fun kv => (kV kv.1, kv.2)) := by
            have e1 : ∀ {ps : List (V × V)} {kr : List (Key × R)}, ps.map (·.1) = kr.map (fun x => kV x.1) → ps = ((kr.map (·.1)).zip (ps.map (·.2))).map (fun kv => (kV kv.1, kv.2)) := by
              intro ps
              induction ps with
              | nil => intro kr e; cases kr with
                | nil => rfl
                | cons => cases e
              | cons p ps ih =>
                intro kr e
                cases kr with
                | nil => cases e
                | cons z kr =>
                  rw [List.map_cons, List.map_cons, List.cons.injEq] at e
                  rw [List.map_cons, List.map_cons, List.zip_cons_cons, List.map_cons, ← e.1, ← ih e.2]
            exact e1 eks
          have lz : ((kr.map (·.1)).zip (ps.map (·.2))).length = kr.length := by rw [List.length_zip, List.length_map, ← lk, Nat.min_self]
          refine ⟨hp2, (kr.map (·.1)).zip (ps.map (·.2)), eps, by rw [lz]; exact hc.2, ?_⟩
          have em : mergeK [] ((kr.map (·.1)).zip (ps.map (·.2))) = (kr.map (·.1)).zip (ps.map (·.2)) := by
            rw [merge_nodup]
            · rfl
            · rw [List.nil_append, List.map_fst_zip (by rw [List.length_map, lk]; exact Nat.le_refl _)]; exact hc.1
          rw [em]
          have s03 : Step F G H Φ A (T ++ F3) G2 H2 Φ3 A2 := sp1.trans0 s13
          refine q (.ref p) _ Φ3 A2 (p :: T) F3 G2 ⟨fun b o e hn => ?_, s03.le, s03.grow, fun b hb => ?_, s03.ownG, fun b hb => ?_, s03.cells⟩ st4 r4 nd4 (fz2.trans fz3)
          · have hb : b ≠ p := fun z => by subst z; rw [hp] at e; cases e
            rw [upd_ne hb]; exact s03.keep b o e hn
          · rcases List.mem_append.mp hb with hb | hb
            · rcases List.mem_cons.mp hb with rfl | hb
              · exact .inr (.inr hp)
              · exact s03.ownF b (List.mem_append_left _ hb)
            · exact s03.ownF b (List.mem_append_right _ hb)
          · by_cases e : b = p
            · subst e; rw [upd_same]; simp
            · rw [upd_ne e]; exact s03.live b hb
      · rw [if_neg hc] at ho; cases ho
end
structure DPs (X : Cx) (W : WX) (pos : Pos) (keys : List (Option Expr)) (values : List Expr) (trs : List (TE × TE)) (fps : List (FE × FE)) : Prop where
  pps : PPs X pos keys values trs
  ev : EVPs X.K W trs fps
section
variable {X : Cx} {W : WX} {pos : Pos}
theorem dp_nil : DPs X W pos [] [] [] [] := ⟨pps_nil, .nil⟩
theorem dp_cons {k v : Expr} {ks : List (Option Expr)} {vs : List Expr} {tk tv : TE} {trs : List (TE × TE)} {fk fv : FE} {fps : List (FE × FE)} (hk : DE X W k tk fk) (hv : DE X W v tv fv) (hr : DPs X W pos ks vs trs fps) :
    DPs X W pos (some k :: ks) (v :: vs) ((tk, tv) :: trs) ((fk, fv) :: fps) := ⟨pps_cons hk.pe hv.pe hr.pps, .cons hk.ev hv.ev hr.ev⟩
theorem de_disp {keys : List (Option Expr)} {values : List Expr} {trs : List (TE × TE)} {fps : List (FE × FE)} (h : DPs X W pos keys values trs fps) (hall : keys.all (·.isSome) = true := by rfl) (hl : keys.length = values.length := by rfl) (h0 : keys ≠ [] := by exact fun z => nomatch z)
    (h15 : keys.length ≤ 15 := by decide) : DE X W (.Dict keys values pos) (tDisp trs) (fDisp fps) := ⟨pe_disp h.pps hall hl h0 h15, ev_disp h.ev⟩
noncomputable def fDNew (n : Nd) : FE := fun S => some (.ok (.val (.node n [])) S)
theorem ev_dnew {K : PySem.W.Frag} {n : Nd} (hf : n.fits 0) : EV K W (fun _ H Q => ∀ p, H p = none → Q (.ref p) (upd H p (n.ho []))) (fDNew n) := fun S σ H Φ A F G st out ho Q q => by
  cases ho
  intro p hp
  have hΦ : Φ p = none := by
    cases e : Φ p with
    | none => rfl
    | some o => have := st.le _ _ e; rw [hp] at this; cases this
  have no : ∀ b ∈ F ++ G, b ≠ p := fun b hb z => by
    subst z
    rcases List.mem_append.mp hb with hb | hb
    · exact (st.ro.there b hb).1.ne hp
    · exact (st.rc.there b hb).1.ne hp
  obtain ⟨st1, r1, nd1⟩ := new_node (n := n) (vs := []) (xs := []) st .nil (by simpa using st.nd) (by simpa using no) hΦ hf
  refine q (.ref p) _ Φ A [p] F G ⟨fun b o e _ => upd_same' hp _ _ e, fun _ _ e => e, fun _ _ e => .inl e, fun b hb => ?_, fun _ h => .inl h, fun b hb => ?_, Pfx.refl⟩ st1 r1 nd1 .refl
  · rcases List.mem_append.mp hb with hb | hb
    · have := List.mem_singleton.mp hb; subst this; exact .inr (.inr hp)
    · exact .inl hb
  · by_cases e : b = p
    · subst e; rw [upd_same]; simp
    · rw [upd_ne e]; exact hb
theorem de_dnewK : DE X W (.Dict [] [] pos) tDNewK (fDNew (.dK [])) := ⟨pe_dnewK, fun S σ H Φ A F G st out ho Q q => ev_dnew (n := .dK []) ⟨rfl, List.nodup_nil⟩ S σ H Φ A F G st out ho Q q⟩
end
noncomputable def fSetC (i : Nat) (fe : FE) : FS := bindS fe fun r S => match r with
  | .val (.node n xs) => (({ S with μ := S.μ ++ [.node n xs] } : Sto).put i (.cell S.μ.length)).map SO.nx
  | _ => none
section
variable {X : Cx} {W : WX} {e : Expr} {pos : Pos} {te : TE} {fe : FE}
theorem ev_setC {K : PySem.W.Frag} {i : Nat} (h : EV K W te fe) : SEV K W (tAsg te (gName i)) (fSetC i fe) := fun S σ H Φ A F G st out ho D q => by
  refine runS2 (t := te) h st ho q fun r S1 v H1 Φ1 A1 T F1 G1 sp st1 rv nd fz q1 h1 => ?_
  cases r with
  | bor j p => cases h1
  | val x =>
    cases x with
    | dat d => cases h1
    | cell c => cases h1
    | node n xs =>
      have rv : RS K Φ1 H1 A1 v (.node n xs) T := rv
      cases rv with
      | @node a _ vs _ U ea f pa qs =>
        have rs : RS K Φ1 H1 A1 (.ref a) (.node n xs) (a :: U) := .node ea f pa qs
        have pfx : Pfx A1 (A1 ++ [a]) := fun k x e => by rw [List.getElem?_append_left (List.getElem?_eq_some_iff.mp e).1]; exact e
        have la : A1.length = S1.μ.length := st1.rc.length
        have rc' := RC.snoc (rs.frame (Same.refl _) pfx (fun _ _ => rfl) fun b hb => (rs.there b hb).2) (st1.rc.frame (Same.refl _) pfx (fun _ _ => rfl) fun b hb => (st1.rc.there b hb).2)
        have ro' := st1.ro.frame (Same.refl _) pfx (fun _ _ => rfl) fun b hb => (st1.ro.there b hb).2
        have nd' : (F1 ++ (G1 ++ (a :: U))).Nodup := by
          simp only [List.nodup_append, List.mem_append] at nd ⊢; grind
        have st2 : Stands K { S1 with μ := S1.μ ++ [.node n xs] } σ H1 Φ1 (A1 ++ [a]) F1 (G1 ++ (a :: U)) := ⟨st1.le, ro', rc', nd'⟩
        have h1 : (({ S1 with μ := S1.μ ++ [.node n xs] } : Sto).put i (.cell S1.μ.length)).map SO.nx = some out := h1
        unfold Sto.put at h1
        by_cases hi : i < S1.ρ.length
        · have h1 : some (SO.nx { ρ := S1.ρ.set i (some (.cell S1.μ.length)), μ := S1.μ ++ [.node n xs] }) = some out := by rw [← h1, if_pos hi]; rfl
          cases h1
          obtain ⟨F3, st3, hF⟩ := st2.set (v := .ref a) (x := .cell S1.μ.length) (T := []) (.cell (by rw [← la, List.getElem?_append_right (Nat.le_refl _)]; simp)) (by simpa using nd') hi
          refine q _ H1 Φ1 (A1 ++ [a]) F3 (G1 ++ (a :: U)) ?_ st3
          have rn := sp.run
          refine ⟨rn.keep, rn.le, rn.grow, fun b hb => ?_, rn.live, rn.cells.trans pfx⟩
          rcases hb with hb | hb
          · rcases hF b hb with h | h
            · simp at h
            · exact rn.own b (.inl (List.mem_append_right _ h))
          · rcases List.mem_append.mp hb with hb | hb
            · exact rn.own b (.inr hb)
            · exact rn.own b (.inl (List.mem_append_left _ hb))
        · rw [if_neg hi] at h1; cases h1
theorem ds_setC {x : Str} {pos' : Pos} {i : Nat} (hN : X.N.Nodup) (h : DE X W e te fe) (hi : X.N[i]? = some x := by rfl) (hx : Loc X.env.scope x := by first | exact Or.inl rfl | exact Or.inr rfl) (hs : swapsWith e (some (.Name x pos')) pos.line X.env = pure false := by rfl)
    (hf : X.fn x = true ∨ X.env.scope.names.lookup x = some .local := by first | exact .inl rfl | exact .inr rfl) : DS X W (.Assign [.Name x pos'] e pos) (tAsg te (gName i)) (fSetC i fe) := ⟨ps_set hN hi hx h.pe hs hf, ev_setC h.ev⟩
end
end L3
namespace L3
open PySem PySem.Spec PyProof.Rows L2
section
variable {X : Cx} {W : WX} {a b e o : Expr} {pos apos : Pos} {ta tb te to : TE} {fa fb fe fo : FE}
noncomputable def fFrz (f : FE) : FE := bindE f fun r S => (r.esc S).map fun z => .ok (.d z.1) z.2
theorem ev_frz {K : PySem.W.Frag} (h : EV K W te fe) : EV K W te (fFrz fe) := fun S σ H Φ A F G st out ho Q q => by
  refine run1 (t := te) h st ho q.x fun r S1 v H1 Φ1 A1 T F1 G1 sp st1 rv nd fz h1 => ?_
  cases e1 : r.esc S1 with
  | none => rw [e1] at h1; cases h1
  | some z =>
    obtain ⟨d, S2⟩ := z
    rw [e1] at h1; cases h1
    obtain ⟨Φ2, F2, sp2, st2, rp2, fz2⟩ := esc_ok st1 rv nd e1
    exact q v H1 Φ2 A1 [] F2 G1 (sp.trans0 sp2) st2 (RS.dat rp2) (by simpa using st2.nd) (fz.trans fz2)
theorem de_frz (h : DE X W e te fe) : DE X W e te (fFrz fe) := ⟨h.pe, ev_frz h.ev⟩
theorem ds_setCompF {elt tge iter : Expr} {ifs : List Expr} {scope : Scope} {own : List (Str × Nat)} {spos py : Pos} {wi : TI} {g : TG} {tg : Tg} {fi : FI} {ft : FT} {y : Str} {i : Nat} (hc : X.calm = true) (hN : X.N.Nodup) (hi : DI X W tge iter wi fi) (ok : BlkOk X.N X.env.scope scope own)
    (hg : ∀ (s : Shared) (H : Hp) (C : Addr) (cl : List (Str × Addr)) (fp : List Addr), DG (X.blk s H scope (compEnvC scope cl C X.env) fp) tge g tg)
    (ht : ∀ (s : Shared) (H : Hp) (C : Addr) (cl : List (Str × Addr)) (fp : List Addr), ∃ tt, DTs (X.blk s H scope (compEnvC scope cl C X.env) fp) W0 ifs tt ft)
    (he : ∀ (s : Shared) (H : Hp) (C : Addr) (cl : List (Str × Addr)) (fp : List Addr), ∃ te, DE (X.blk s H scope (compEnvC scope cl C X.env) fp) W0 elt te fe)
    (hy : X.N[i]? = some y := by rfl) (hyl : X.env.scope.names.lookup y = some .local := by rfl)
    (hsw : swapsWith (.ListComp elt [⟨tge, iter, ifs, 0⟩] scope pos) (some (.Name y py)) spos.line X.env = pure true := by rfl)
    (hv : ∀ i ∈ tg.sl, i ∈ own.map (·.2) := by decide) (hs : ∀ x, foldedSetIterable iter X.env x = pure x := by intro _; rfl) :
    DS X W (.Assign [.Name y py] (.ListComp elt [⟨tge, iter, ifs, 0⟩] scope pos) spos) (tAsg (tLc wi g (tOfT X.K W0 ft) (tOf X.K W0 fe) (own.map (·.2))) (gName i)) (fSet i (fFrz (fComp tg fi ft fe (own.map (·.2))))) :=
  ⟨(ds_setComp hc hN hi ok hg ht he hy hyl hsw hv hs).ps, ev_set (ev_frz (ev_comp hi.ev (hg X.s_0 X.H_0 0 [] []).ev ev_tOfT ev_tOf hv))⟩
theorem de_mulI (ha : DE X W a ta fa) (hb : DE X W b tb fb) : DE X W (.BinOp a .Mult b pos) (tOp (rI CMul fun i j => .int (i * j)) ta tb) (fBin (g2 (dI iMul)) fa fb) := de_bin op_mul og_mulI ha hb
noncomputable def negD : D → Option D
  | .int i => some (.int (-i))
  | _ => none
noncomputable def fNeg (f : FE) : FE := bindE f fun r S => ((r.peek S).bind negD).map fun d => .ok (.d d) S
theorem de_neg (ha : DE X W a ta fa) : DE X W (.UnaryOp .USub a pos) (tUn (rU fun i => .int (-i)) ta) (fNeg fa) := ⟨pe_un un_neg ha.pe, fun S σ H Φ A F G st out ho Q q => by
  refine run1 (t := ta) ha.ev st ho q.x fun r S1 v H1 Φ1 A1 T F1 G1 sp st1 rv nd fz h1 => ?_
  cases e1 : r.peek S1 with
  | none => rw [e1] at h1; cases h1
  | some d =>
    rw [e1] at h1
    have rp := rv.rp st1 e1
    cases d <;> try cases h1
    rename_i i
    cases rp
    exact ⟨i, rfl, q _ H1 Φ1 A1 [] F1 G1 sp.drop st1 (RS.dat (.int _)) (by simpa using st1.nd) fz⟩⟩
noncomputable def dLt : D → D → Option D
  | .int i, .int j => some (.bl (decide (i < j)))
  | .str x, .str y => some (.bl (decide (x.cps.toList < y.cps.toList)))
  | _, _ => none
noncomputable def dLe : D → D → Option D
  | .int i, .int j => some (.bl (decide (i ≤ j)))
  | .str x, .str y => some (.bl (!decide (y.cps.toList < x.cps.toList)))
  | _, _ => none
noncomputable def rOrd (f : Int → Int → V) (g : Str → Str → V) : R2 := fun x y H Q => rI0 f x y H Q ∨ ∃ i j, x = .str i ∧ y = .str j ∧ Q (g i j) H
theorem og_ord {K : PySem.W.Frag} {f : Int → Int → Bool} {g : Str → Str → Bool} {d : D → D → Option D} (h1 : ∀ i j, d (.int i) (.int j) = some (.bl (f i j))) (h2 : ∀ i j, d (.str i) (.str j) = some (.bl (g i j)))
    (h3 : ∀ x y z, d x y = some z → (∃ i j, x = .int i ∧ y = .int j) ∨ ∃ i j, x = .str i ∧ y = .str j) : OpG K (rOrd (fun i j => .bl (f i j)) (fun i j => .bl (g i j))) (g2 d) := opG_scal fun H x y dx dy z rx ry e Q q => by
  rcases h3 _ _ _ e with ⟨i, j, rfl, rfl⟩ | ⟨i, j, rfl, rfl⟩
  · cases rx; cases ry; rw [h1] at e; cases e
    exact .inl ⟨i, j, rfl, rfl, q _ fun H' => .bl _⟩
  · cases rx; cases ry; rw [h2] at e; cases e
    exact .inr ⟨i, j, rfl, rfl, q _ fun H' => .bl _⟩
theorem dLt_k {x y z : D} (e : dLt x y = some z) : (∃ i j, x = .int i ∧ y = .int j) ∨ ∃ i j, x = .str i ∧ y = .str j := by
  cases x <;> cases y <;> first | exact .inl ⟨_, _, rfl, rfl⟩ | exact .inr ⟨_, _, rfl, rfl⟩ | cases e
theorem dLe_k {x y z : D} (e : dLe x y = some z) : (∃ i j, x = .int i ∧ y = .int j) ∨ ∃ i j, x = .str i ∧ y = .str j := by
  cases x <;> cases y <;> first | exact .inl ⟨_, _, rfl, rfl⟩ | exact .inr ⟨_, _, rfl, rfl⟩ | cases e
noncomputable abbrev rLt : R2 := rOrd (fun i j => .bl (decide (i < j))) (fun i j => .bl (decide (i.cps.toList < j.cps.toList)))
noncomputable abbrev rLe : R2 := rOrd (fun i j => .bl (decide (i ≤ j))) (fun i j => .bl (!decide (j.cps.toList < i.cps.toList)))
noncomputable abbrev rGt : R2 := rOrd (fun i j => .bl (decide (j < i))) (fun i j => .bl (decide (j.cps.toList < i.cps.toList)))
noncomputable abbrev rGe : R2 := rOrd (fun i j => .bl (decide (j ≤ i))) (fun i j => .bl (!decide (i.cps.toList < j.cps.toList)))
noncomputable abbrev gLt : G2 := g2 dLt
noncomputable abbrev gLe : G2 := g2 dLe
noncomputable abbrev gGt : G2 := g2 fun x y => dLt y x
noncomputable abbrev gGe : G2 := g2 fun x y => dLe y x
theorem og_lt {K : PySem.W.Frag} : OpG K rLt gLt := og_ord (fun _ _ => rfl) (fun _ _ => rfl) (fun _ _ _ => dLt_k)
theorem og_le {K : PySem.W.Frag} : OpG K rLe gLe := og_ord (fun _ _ => rfl) (fun _ _ => rfl) (fun _ _ _ => dLe_k)
theorem og_gt {K : PySem.W.Frag} : OpG K rGt gGt := og_ord (fun _ _ => rfl) (fun _ _ => rfl) (fun _ _ _ e => (dLt_k e).imp (fun ⟨i, j, a, b⟩ => ⟨j, i, b, a⟩) fun ⟨i, j, a, b⟩ => ⟨j, i, b, a⟩)
theorem og_ge {K : PySem.W.Frag} : OpG K rGe gGe := og_ord (fun _ _ => rfl) (fun _ _ => rfl) (fun _ _ _ e => (dLe_k e).imp (fun ⟨i, j, a, b⟩ => ⟨j, i, b, a⟩) fun ⟨i, j, a, b⟩ => ⟨j, i, b, a⟩)
theorem op_ltP : OpR X (compareOp .Lt) rLt := op_lt.or op_lt_str
theorem op_leP : OpR X (compareOp .LtE) rLe := op_le.or op_le_str
theorem op_gtP : OpR X (compareOp .Gt) rGt := op_gt.or op_gt_str
theorem op_geP : OpR X (compareOp .GtE) rGe := op_ge.or op_ge_str
theorem dt_le (ha : DE X W a ta fa) (hb : DE X W b tb fb) (hm : behindInMarks .LtE b = false := by rfl) : DT X W (.Compare a [.LtE] [b] pos) (tTest (tOp rLe ta tb)) (fTest (fBin gLe fa fb)) := dt_cmp op_leP og_le ha hb hm
theorem dt_gt (ha : DE X W a ta fa) (hb : DE X W b tb fb) (hm : behindInMarks .Gt b = false := by rfl) : DT X W (.Compare a [.Gt] [b] pos) (tTest (tOp rGt ta tb)) (fTest (fBin gGt fa fb)) := dt_cmp op_gtP og_gt ha hb hm
theorem dt_ge (ha : DE X W a ta fa) (hb : DE X W b tb fb) (hm : behindInMarks .GtE b = false := by rfl) : DT X W (.Compare a [.GtE] [b] pos) (tTest (tOp rGe ta tb)) (fTest (fBin gGe fa fb)) := dt_cmp op_geP og_ge ha hb hm
theorem dt_eq (hu : X.A.units + 65 < cLine) (ha : DE X W a ta fa) (hb : DE X W b tb fb) (hm : behindInMarks .Eq b = false := by rfl) : DT X W (.Compare a [.Eq] [b] pos) (tTest (tOp (rEqA X.K) ta tb)) (fTest (fBin (g2 dEq) fa fb)) := dt_cmp (op_eqA (by omega)) og_eq ha hb hm
theorem dt_ne (hu : X.A.units + 65 < cLine) (ha : DE X W a ta fa) (hb : DE X W b tb fb) (hm : behindInMarks .NotEq b = false := by rfl) : DT X W (.Compare a [.NotEq] [b] pos) (tTest (tOp (rNeA X.K) ta tb)) (fTest (fBin (g2 dNe) fa fb)) := dt_cmp (op_neA (by omega)) og_ne ha hb hm
theorem de_eq (hu : X.A.units + 65 < cLine) (ha : DE X W a ta fa) (hb : DE X W b tb fb) (hm : behindInMarks .Eq b = false := by rfl) : DE X W (.Compare a [.Eq] [b] pos) (tOp (rEqA X.K) ta tb) (fBin (g2 dEq) fa fb) := de_cmp (op_eqA (by omega)) og_eq ha hb hm
noncomputable def xorB (neg b : Bool) : Bool := if neg then !b else b
noncomputable def inD (neg : Bool) (x y : D) : Option D := match y with
  | .lst ds => match x.py, pys ds with
    | some p, some ps => if SeqAt.shaped p = true ∧ SeqAt.shaped (.list ps) = true then some (.bl (xorB neg (ps.any fun z => PyData.eqv z p))) else none
    | _, _ => none
  | .tup ds => match x.py, pys ds with
    | some p, some ps => if SeqAt.shaped p = true ∧ SeqAt.shaped (.list ps) = true then some (.bl (xorB neg (ps.any fun z => PyData.eqv z p))) else none
    | _, _ => none
  | .kt ds => match x.py, pys ds with
    | some p, some ps => if SeqAt.shaped p = true ∧ SeqAt.shaped (.list ps) = true then some (.bl (xorB neg (ps.any fun z => PyData.eqv z p))) else none
    | _, _ => none
  | .str z => match x with
    | .str w => some (.bl (xorB neg (!(Builtin.Str.occurrences z w 0 z.length 1).isEmpty)))
    | _ => none
  | _ => none
noncomputable def rInA (K : PySem.W.Frag) (neg : Bool) : R2 := fun x y H Q => (∃ d ds, Dp K H x d ∧ (Dp K H y (.list ds) ∨ Dp K H y (.tuple ds)) ∧ SeqAt.shaped d = true ∧ SeqAt.shaped (.list ds) = true ∧ Q (.bl (xorB neg (ds.any fun z => PyData.eqv z d))) H) ∨
  ∃ i j, x = .str i ∧ y = .str j ∧ Q (.bl (xorB neg (!(Builtin.Str.occurrences j i 0 j.length 1).isEmpty))) H
theorem op_inA (hu : X.A.units + 65 < cLine) : OpR X (compareOp .In) (rInA X.K false) := by
  rintro pins s σ H x y v u Q I rx ry (⟨d, ds, hd, he, sd, se, q⟩ | ⟨i, j, e1, e2, q⟩)
  · obtain ⟨as, r1⟩ := Dp.reads I d x v hd rx
    rcases he with he | he
    · obtain ⟨bs, r2⟩ := Dp.reads I (.list ds) y u he ry
      exact SeqAt.in_list_reads r2 r1 (SeqAt.canLay_of_shaped se) (SeqAt.canLay_of_shaped sd) (room_in_shaped sd hu) ⟨.bl _, H, I, rfl, q⟩
    · obtain ⟨bs, r2⟩ := Dp.reads I (.tuple ds) y u he ry
      exact SeqAt.in_tuple_reads r2 r1 (SeqAt.canLay_of_shaped se) (SeqAt.canLay_of_shaped sd) (room_in_shaped sd hu) ⟨.bl _, H, I, rfl, q⟩
  · exact op_in_str pins s σ H x y v u Q I rx ry ⟨i, j, e1, e2, q⟩
theorem op_notInA (hu : X.A.units + 65 < cLine) : OpR X (compareOp .NotIn) (rInA X.K true) := by
  rintro pins s σ H x y v u Q I rx ry (⟨d, ds, hd, he, sd, se, q⟩ | ⟨i, j, e1, e2, q⟩)
  · obtain ⟨as, r1⟩ := Dp.reads I d x v hd rx
    rcases he with he | he
    · obtain ⟨bs, r2⟩ := Dp.reads I (.list ds) y u he ry
      exact SeqAt.notIn_list_reads r2 r1 (SeqAt.canLay_of_shaped se) (SeqAt.canLay_of_shaped sd) (room_in_shaped sd hu) ⟨.bl _, H, I, rfl, q⟩
    · obtain ⟨bs, r2⟩ := Dp.reads I (.tuple ds) y u he ry
      exact SeqAt.notIn_tuple_reads r2 r1 (SeqAt.canLay_of_shaped se) (SeqAt.canLay_of_shaped sd) (room_in_shaped sd hu) ⟨.bl _, H, I, rfl, q⟩
  · exact op_notIn_str pins s σ H x y v u Q I rx ry ⟨i, j, e1, e2, q⟩
theorem og_in {K : PySem.W.Frag} (neg : Bool) : OpG K (rInA K neg) (g2 (inD neg)) := opG_scal fun H x y dx dy z rx ry e Q q => by
  have fin : ∀ {ds : List D}, (Rp K H y (.lst ds) ∨ Rp K H y (.tup ds) ∨ Rp K H y (.kt ds)) → (match dx.py, pys ds with
      | some p, some ps => if SeqAt.shaped p = true ∧ SeqAt.shaped (.list ps) = true then some (D.bl (xorB neg (ps.any fun z => PyData.eqv z p))) else none
      | _, _ => none) = some z → rInA K neg x y H Q := fun {ds} hy e => by
    cases e1 : dx.py with
    | none => rw [e1] at e; cases e
    | some p =>
      cases e2 : pys ds with
      | none => rw [e1, e2] at e; cases e
      | some ps =>
        rw [e1, e2] at e
        dsimp only at e
        by_cases h : SeqAt.shaped p = true ∧ SeqAt.shaped (.list ps) = true
        · rw [if_pos h] at e; cases e
          refine .inl ⟨p, ps, rx.dp e1, hy.imp (fun r => r.dp ?_) (fun r => r.elim (fun r => r.dp ?_) (fun r => r.dp ?_)), h.1, h.2, q _ fun H' => .bl _⟩
          · show (D.lst ds).py = _; unfold D.py; rw [e2]; rfl
          · show (D.tup ds).py = _; unfold D.py; rw [e2]; rfl
          · show (D.kt ds).py = _; unfold D.py; rw [e2]; rfl
        · rw [if_neg h] at e; cases e
  cases dy with
  | lst ds => exact fin (.inl ry) e
  | tup ds => exact fin (.inr (.inl ry)) e
  | kt ds => exact fin (.inr (.inr ry)) e
  | str z =>
    cases dx <;> try cases e
    cases rx; cases ry
    exact .inr ⟨_, _, rfl, rfl, q _ fun H' => .bl _⟩
  | _ => cases e
theorem dt_in (hu : X.A.units + 65 < cLine) (ha : DE X W a ta fa) (hb : DE X W b tb fb) (hm : behindInMarks .In b = false := by rfl) : DT X W (.Compare a [.In] [b] pos) (tTest (tOp (rInA X.K false) ta tb)) (fTest (fBin (g2 (inD false)) fa fb)) := dt_cmp (op_inA hu) (og_in false) ha hb hm
theorem dt_notIn (hu : X.A.units + 65 < cLine) (ha : DE X W a ta fa) (hb : DE X W b tb fb) (hm : behindInMarks .NotIn b = false := by rfl) : DT X W (.Compare a [.NotIn] [b] pos) (tTest (tOp (rInA X.K true) ta tb)) (fTest (fBin (g2 (inD true)) fa fb)) := dt_cmp (op_notInA hu) (og_in true) ha hb hm
theorem de_in (hu : X.A.units + 65 < cLine) (ha : DE X W a ta fa) (hb : DE X W b tb fb) (hm : behindInMarks .In b = false := by rfl) : DE X W (.Compare a [.In] [b] pos) (tOp (rInA X.K false) ta tb) (fBin (g2 (inD false)) fa fb) := de_cmp (op_inA hu) (og_in false) ha hb hm
noncomputable def isStr : D → Bool
  | .str _ => true
  | _ => false
noncomputable def fM1 (g : G2) (fo fe : FE) : FE := bindE fo fun ro S1 => if ((ro.peek S1).map isStr) = some true then bindE fe (fun re S2 => (g ro re S2).map fun z => .ok z.1 z.2) S1 else none
theorem ev_m1 {K : PySem.W.Frag} {r : V → List V → Hp → VK → Prop} {g : G2} (hg : OpG K (fun x y H Q => r x [y] H Q) g) (ho : EV K W to fo) (he : EV K W te fe) : EV K W (tM1 r to te) (fM1 g fo fe) := fun S σ H Φ A F G st out h Q q => by
  refine run1 (t := to) ho st h q.x fun ro S1 x H1 Φ1 A1 T F1 G1 sp st1 rv nd fz h1 => ?_
  by_cases hs : ((ro.peek S1).map isStr) = some true
  · rw [if_pos hs] at h1
    have ex : ∃ a, x = .str a := by
      cases e1 : ro.peek S1 with
      | none => rw [e1] at hs; cases hs
      | some d =>
        rw [e1] at hs
        have rp := rv.rp st1 e1
        cases d <;> try cases hs
        cases rp
        exact ⟨_, rfl⟩
    refine ⟨ex, run1 (t := te) he st1 h1 (fun e S' eo => (q.x e S' eo).at sp fz) fun re S2 y H2 Φ2 A2 U F2 G2 sp2 st2 rv2 nd2 fz2 h2 => ?_⟩
    cases e : g ro re S2 with
    | none => rw [e] at h2; cases h2
    | some z =>
      obtain ⟨rz, S'⟩ := z
      rw [e] at h2; cases h2
      have rv' := rv.step st1 nd sp2.drop fz2
      refine hg S2 σ H2 Φ2 A2 F2 G2 x y ro re T U st2 rv' rv2 (rv.nd nd sp2 nd2) rz S' e Q fun v H' Φ' A' V F' G' s2 st' rvz nd' f2 => ?_
      have s12 : Step F G H Φ A (T ++ (U ++ F2)) G2 H2 Φ2 A2 := sp.trans sp2
      exact q v H' Φ' A' V F' G' (Step.trans (T := []) (T1 := V) (F1 := T ++ (U ++ F2)) s12 s2) st' rvz nd' ((fz.trans fz2).trans f2)
  · rw [if_neg hs] at h1; cases h1
noncomputable def gSplit : G2 := fun ra rb S => match ra.peek S, rb.peek S with
  | some (.str x), some (.str y) => if (y.length == 0) = false ∧ x.length ≤ 1000000 then some (.val (.own ((Txt.split x y).map fun z => .dat (.str z))), S) else none
  | _, _ => none
theorem rps_strs {K : PySem.W.Frag} {H : Hp} : ∀ {ys : List Str}, Rps K H (ys.map V.str) (ys.map D.str)
  | [] => .nil
  | _ :: ys => .cons (.str _) rps_strs
theorem k1000002 {n : Nat} (h : n ≤ 1000000) : n + 2 ≤ sizeLine := Nat.le_trans (Nat.add_le_add_right h 2) (by rw [sizeLine_eq]; decide)
theorem og_split {K : PySem.W.Frag} : OpG K (fun x y H Q => ∃ a b, x = .str a ∧ [y] = [.str b] ∧ (b.length == 0) = false ∧ a.length + 2 ≤ sizeLine ∧ rNewStrs (Txt.split a b) H Q) gSplit := by
  intro S σ H Φ A F G x y ra rb T U st rx ry nd rz S' e Q q
  unfold gSplit at e
  split at e
  · rename_i i j e1 e2
    split at e
    · rename_i hc
      cases e
      have r1 := rx.rp st e1
      have r2 := ry.rp st e2
      cases r1; cases r2
      refine ⟨i, j, rfl, rfl, hc.1, k1000002 hc.2, fun p hp => ?_⟩
      have stay : Step (T ++ (U ++ F)) G H Φ A F G H Φ A := ⟨fun _ _ e _ => e, fun _ _ e => e, fun _ _ e => .inl e, fun b hb => .inl (by simp [hb]), fun _ h => .inl h, fun _ h => h, Pfx.refl⟩
      have eds : ((Txt.split i j).map fun z => SV.dat (.str z)) = ((Txt.split i j).map D.str).map SV.dat := by rw [List.map_map]; rfl
      rw [eds] at q
      exact end_list q stay st rps_strs hp
    · cases e
  · cases e
noncomputable def rSplit : V → List V → Hp → VK → Prop := fun x xs H Q => ∃ a b, x = .str a ∧ xs = [.str b] ∧ (b.length == 0) = false ∧ a.length + 2 ≤ sizeLine ∧ rNewStrs (Txt.split a b) H Q
theorem de_split (ho : DE X W o to fo) (he : DE X W e te fe) (hs : starEach [e] X.env = [(false, eval e X.env)] := by rfl) (hbase : attributeBase o "split" X.env (eval o X.env) = eval o X.env := by rfl) (hline : (apos.endLine == pos.line) = true := by rfl) :
    DE X W (.Call (.Attribute o "split" apos) [e] [] pos) (tM1 rSplit to te) (fM1 gSplit fo fe) :=
  ⟨pe_split ho.pe he.pe hs hbase hline, ev_m1 og_split ho.ev he.ev⟩
noncomputable def strsD : List D → Option (List Str)
  | [] => some []
  | .str x :: ds => (strsD ds).map fun xs => x :: xs
  | _ :: _ => none
theorem strsD_eq : ∀ {ds : List D} {ys : List Str}, strsD ds = some ys → ds = ys.map D.str
  | [], ys, e => by cases e; rfl
  | d :: ds, ys, e => by
    cases d <;> try cases e
    rename_i x
    have e : (strsD ds).map (fun xs => x :: xs) = some ys := e
    cases e1 : strsD ds with
    | none => rw [e1] at e; cases e
    | some zs => rw [e1] at e; cases e; rw [strsD_eq e1]; rfl
theorem rps_strs' {K : PySem.W.Frag} {H : Hp} : ∀ {ys : List Str} {vs : List V}, Rps K H vs (ys.map D.str) → vs = ys.map V.str
  | [], _, .nil => rfl
  | _ :: ys, _, .cons q r => by cases q; rw [rps_strs' r]; rfl
noncomputable def joinD (x : Str) (ds : List D) : Option D := (strsD ds).bind fun ys => if (ys.map (·.length)).sum + ys.length * x.length ≤ 16777216 then some (.str (Txt.join x ys)) else none
noncomputable def dJoin : D → D → Option D
  | .str x, .lst ds => joinD x ds
  | .str x, .tup ds => joinD x ds
  | _, _ => none
theorem og_join {K : PySem.W.Frag} : OpG K (fun x y H Q => ∃ a p, ∃ ys : List Str, x = .str a ∧ [y] = [.ref p] ∧ (SqL K H p (ys.map V.str) ∨ SqT K H p (ys.map V.str)) ∧
      (ys.map (·.length)).sum + ys.length * a.length ≤ 16777216 ∧ Q (.str (Txt.join a ys)) H) (g2 dJoin) := opG_scal fun H x y dx dy z rx ry e Q q => by
  have fin : ∀ {i : Str} {ds : List D}, joinD i ds = some z → ∃ ys, ds = ys.map D.str ∧ (ys.map (·.length)).sum + ys.length * i.length ≤ 16777216 ∧ z = .str (Txt.join i ys) := fun {i ds} e => by
    unfold joinD at e
    cases e1 : strsD ds with
    | none => rw [e1] at e; cases e
    | some ys =>
      rw [e1, Option.bind_some] at e
      split at e
      · cases e; exact ⟨ys, strsD_eq e1, by assumption, rfl⟩
      · cases e
  cases dx <;> cases dy <;> try cases e
  · obtain ⟨ys, rfl, hz, rfl⟩ := fin e
    cases rx
    cases ry with
    | lst sq rr =>
      rw [rps_strs' rr] at sq
      exact ⟨_, _, ys, rfl, rfl, .inl (.inl (.inl sq)), hz, q _ fun H' => .str _⟩
  · obtain ⟨ys, rfl, hz, rfl⟩ := fin e
    cases rx
    cases ry with
    | tup sq rr =>
      rw [rps_strs' rr] at sq
      exact ⟨_, _, ys, rfl, rfl, .inr (.inl (.inl sq)), hz, q _ fun H' => .str _⟩
noncomputable def rJoin (K : PySem.W.Frag) : V → List V → Hp → VK → Prop := fun x xs H Q => ∃ a p, ∃ ys : List Str, x = .str a ∧ xs = [.ref p] ∧ (SqL K H p (ys.map V.str) ∨ SqT K H p (ys.map V.str)) ∧ (ys.map (·.length)).sum + ys.length * a.length ≤ 16777216 ∧ Q (.str (Txt.join a ys)) H
theorem de_join (ho : DE X W o to fo) (he : DE X W e te fe) (hs : starEach [e] X.env = [(false, eval e X.env)] := by rfl) (hbase : attributeBase o "join" X.env (eval o X.env) = eval o X.env := by rfl) (hline : (apos.endLine == pos.line) = true := by rfl) :
    DE X W (.Call (.Attribute o "join" apos) [e] [] pos) (tM1 (rJoin X.K) to te) (fM1 (g2 dJoin) fo fe) :=
  ⟨pe_join ho.pe he.pe hs hbase hline, ev_m1 og_join ho.ev he.ev⟩
noncomputable def fAug (i : Nat) (g : G2) (fe : FE) : FS := fun S => match S.ρ[i]? with
  | some (some _) => bindS fe (fun re S1 => match g (.bor i []) re S1 with
    | some (rz, S2) => match rz.kid S2 with
      | some (x, S3) => (S3.put i x).map SO.nx
      | none => none
    | none => none) S
  | _ => none
noncomputable def gAdd2 : G2 := fun ra rb S => (g2 (dI iAdd) ra rb S).orElse fun _ => g2 sAdd ra rb S
end
end L3
namespace L3
open PySem PySem.Spec PyProof.Rows L2
theorem rps_nums {K : PySem.W.Frag} {H : Hp} : ∀ ns : List Int, Rps K H (ns.map V.int) (ns.map D.int)
  | [] => .nil
  | _ :: ns => .cons (.int _) (rps_nums ns)
theorem end_call {P : Program} {w : World} {K : PySem.W.Frag} {mg mb : Str → Option Value} {k : Nat} {fa a : Addr} {fd : FuncData} {x : Str} {f : FnS} {μ : List SV} {s : Shared} {vs : List Value} {ns : List Int} {H : Hp}
    (kin : K.In s.heap) (glob : s.heap.Ns mainGlobals mg) (blt : s.heap.Ns builtinsNs mb) (boot : ∀ x : Str, x ≠ "__name__" → mb x = bootBuiltins x) (lim : s.heap.NoLimit) (gens : s.gens = #[])
    (room : Room k callerA) (F : ∀ base : Heap, K.In base → base.Ns mainGlobals mg → FG P w K mg base k fa fd [x] (spF K 1 f)) (bind : ∀ (s : Shared) (u : Value), BindsTo s fd ⟨[u], []⟩ [(x, u)])
    (val : f [.dat (.kl (ns.map D.int))] [] = some (.ok (.dat (.bl true)) μ))
    (script : s.heap.get? a = some { cls := .type "list", data := .seq vs.toArray }) (only : ∀ b u, H b = some u → b = a ∧ u = .frz { cls := .type "list", data := .seq vs.toArray } (.lst (ns.map V.int)))
    (sq : SqL K H a (ns.map V.int)) (ok : HOk P w H s.heap) (off : H a ≠ none → K.lookup a = none) :
    codeAny (model P w) callerA (.call (.ref fa) ⟨[.ref a], []⟩) (fun r s' => r = .ok (.ret (.bool true)) ∧ OldK s.heap s'.heap ∧ s'.os = s.os ∧ AllBare s'.gens) s := by
  have hide : ∀ {b : Addr} {o : Obj}, s.heap.get? b = some o → H b = none → (hidT s.heap H).get? b = some o := fun e z => hidT_get e z
  have dictOff : ∀ {b : Addr} {o : Obj} {es : Array DictEntry} {n : Nat}, s.heap.get? b = some o → o.data = .dict es n → H b = none := fun {b o es n} e d => by
    cases q : H b with
    | none => rfl
    | some u =>
      obtain ⟨rfl, _⟩ := only b u q
      rw [script] at e; cases e
      exact absurd d (by intro z; cases z)
  have space : ∀ {b : Addr} {m : Str → Option Value}, s.heap.Ns b m → (hidT s.heap H).Ns b m := fun {b m} ⟨o, es, n, e, d, r⟩ => ⟨o, es, n, hide e (dictOff e d), d, r⟩
  have kin' : K.In (hidT s.heap H) := fun b o e => by
    refine hide (kin b o e) ?_
    cases q : H b with
    | none => rfl
    | some u =>
      obtain ⟨rfl, _⟩ := only b u q
      have := off (by rw [q]; simp)
      rw [this] at e; cases e
  obtain ⟨mc, l1, l2⟩ := lim
  have modu : Mod K mg (hidT s.heap H) := ⟨kin', space glob, ⟨mb, space blt, boot⟩, ⟨mc, space l1, l2⟩⟩
  have env : Env0 P w K mg (hidT s.heap H) callerA [] s H := ⟨rfl, modu, fun b o e => of_hidT e, Nat.le_of_eq (hidT_size _ _), trivial, fun b hb => by simp [frs] at hb, ok, .of_eq gens⟩
  have st0 : Stands K ⟨[], []⟩ [] H H [] [] [] := ⟨Same.refl _, .nil, .nil, List.nodup_nil⟩
  have arg : RSs K H H [] [.ref a] [.dat (.kl (ns.map D.int))] [] := .cons (F := []) (.dat (.kl sq (rps_nums ns))) .nil
  have want : spF K 1 f [.ref a] H (fun v _ => v = .bl true) (fun _ _ _ => False) := by
    refine ⟨rfl, H, [], [], [], _, _, st0, arg, val, fun v H' Φ' A' T G' sp st rs nd => ?_⟩
    cases rs with
    | dat r => cases r; rfl
  refine codeAny_mono ((F _ kin' (space glob)).go callerA [] s H ⟨[.ref a], []⟩ [.ref a] [.ref a] _ _ room rfl env (bind s (.ref a)) (.cons rfl .nil) want) fun r s' post => ?_
  match r, post with
  | .error e, z => obtain ⟨_, _, _, _, _, _, _, _, _, _, _, _, bad⟩ := z; exact bad.elim
  | .ok .next, z => exact z.elim
  | .ok .brk, z => exact z.elim
  | .ok .cont, z => exact z.elim
  | .ok (.ret u), ⟨v, H', os, bare, un, ok', rel, ev⟩ =>
    have ev : v = .bl true := ev
    subst ev
    have eu : u = Value.bool true := rel
    subst eu
    refine ⟨rfl, OldK.of_keep fun b o e => ?_, os, bare⟩
    cases q : H b with
    | none => exact un.keep b o e q (by simp [frs]) (by simp)
    | some z =>
      obtain ⟨rfl, rfl⟩ := only b z q
      have later := un.frzs _ _ _ q
      obtain ⟨now, _⟩ := ok _ _ q
      rw [e] at now; cases now
      exact (ok' _ _ later).1
theorem end_walk {l : PySem.W.OpenLaw} {n k : Nat} {q : Program} {loose : List Str} {XP : (Str → Option Value) → Heap → Prop} {YP : World → Heap → Prop} {d : DefRec} {K : Params → PySem.W.Frag} {f : FnS} {x : Str}
    (hn : l.most = some n) (hz : n ≤ sizeLine) (hd : d.params.defaults = []) (room : Room k callerA) (hY : ∀ (w : World) (h : Heap), YP w h → (K w.params).In h)
    (F : ∀ (w : World) (mg : Str → Option Value) (fa : Addr) (h : Heap), (K w.params).In h → h.Ns mainGlobals mg → mg d.name = some (.ref fa) →
      ∃ fd : FuncData, (∀ (s : Shared) (u : Value), BindsTo s fd ⟨[u], []⟩ [(x, u)]) ∧ ∀ base : Heap, (K w.params).In base → base.Ns mainGlobals mg → FG l.prog w (K w.params) mg base k fa fd [x] (spF (K w.params) 1 f))
    (val : ∀ ns : List Int, ns.length ≤ n → (∀ i ∈ ns, Builtin.Int.intBits i ≤ 1048576) → ∃ μ, f [.dat (.kl (ns.map D.int))] [] = some (.ok (.dat (.bl true)) μ)) :
    PySem.W.WalkO q loose XP YP l.row.toRowW d [] (fun f vs => PySem.call f vs) := by
  refine Att.attach_callB hn hd fun w s₀ s mg mb fa o pm cd doc a vs ns G Y ho hdat hcd hmg script hints hlen hbits hg => ?_
  obtain ⟨fd, bind, promise⟩ := F w mg fa _ (hY w _ Y) G.T.g hmg
  obtain ⟨μ, ev⟩ := val ns hlen hbits
  have rv := vals_ints hints
  have lv := hints.length
  have hl : ns.length ≤ sizeLine := Nat.le_trans hlen hz
  have go := fun H => end_call (H := H) (hY w _ Y) G.T.g G.T.b G.T.builtins G.T.nolimit hg room promise bind ev script
  cases hk : (K w.params).lookup a with
  | some ob =>
    have e := hY w _ Y a ob hk
    rw [script] at e; cases e
    exact go (fun _ => none) (fun b u z => nomatch z) (.inr ⟨_, vs.toArray, _, hk, rfl, rfl, rfl, by rw [List.size_toArray, lv]; exact hl, by simpa using rv⟩) (fun b u z => nomatch z) fun z => absurd rfl z
  | none =>
    have at_ : (fun b => if b = a then some (HO.frz { cls := .type "list", data := .seq vs.toArray } (.lst (ns.map V.int))) else none : Hp) a = some (.frz { cls := .type "list", data := .seq vs.toArray } (.lst (ns.map V.int))) := if_pos rfl
    have inv : ∀ b u, (fun b => if b = a then some (HO.frz { cls := .type "list", data := .seq vs.toArray } (.lst (ns.map V.int))) else none : Hp) b = some u → b = a ∧ u = .frz { cls := .type "list", data := .seq vs.toArray } (.lst (ns.map V.int)) := fun b u z => by
      by_cases hb : b = a
      · subst hb; rw [at_] at z; cases z; exact ⟨rfl, rfl⟩
      · exact absurd ((if_neg hb).symm.trans z) (by simp)
    refine go _ inv (.inl (.inr ⟨_, at_⟩)) (fun b u z => ?_) fun _ => hk
    obtain ⟨rfl, rfl⟩ := inv b u z
    exact ⟨script, by rw [List.length_map]; exact hl, vs, _, rv, script⟩
end L3
namespace L3
open PySem PySem.Spec PyProof.Rows L2
structure Df (P : Program) (w : World) (K : PySem.W.Frag) (mg : Str → Option Value) (base : Heap) (k : Nat) (x : Str) (n : Nat) (F : FnS) (dvs : List V) (dfl : List SV) : Prop where
  ex : ∃ (f : Addr) (fd : FuncData) (ps : List Str) (ds : List Value), mg x = some (.ref f) ∧ PySem.W.keepIn K (.ref f) = true ∧ Binds K fd ps ds ∧ Vals dvs ds ∧ Dfl K dvs dfl ∧ FG P w K mg base k f fd ps (spF K n F)
  len : ∀ as μ res, F as μ = some res → as.length = n
theorem df_of {P : Program} {w : World} {K : PySem.W.Frag} {mg : Str → Option Value} {base : Heap} {k m n : Nat} {x : Str} {fb : FS} {f : Addr} {fd : FuncData} {ps : List Str} (h : FG P w K mg base k f fd ps (spF K n (runF n m fb))) (hm : mg x = some (.ref f)) (hk : PySem.W.keepIn K (.ref f) = true) (bd : Binds K fd ps []) :
    Df P w K mg base k x n (runF n m fb) [] [] := ⟨⟨f, fd, ps, [], hm, hk, bd, .nil, dfl_nil, h⟩, runF_len⟩
section
variable {X : Cx} {W : WX} {a b e : Expr} {es : List Expr} {p pos : Pos} {ta tb te : TE} {t : TA} {fa fb fe : FE} {fA : FA} {k k' n : Nat} {x : Str} {F : FnS} {dvs : List V} {dfl : List SV}
theorem de_call (D : Df X.prog X.w X.K X.mg X.base k x n F dvs dfl) (room : Room k' X.A) (gd : X.A.guards = some []) (ha : DA X W (e :: es) t fA) (le : k ≤ k' := by decide) (tk : L2N.Takes X W := by first | exact takesN0 | exact L2N.takes_of rfl rfl rfl rfl)
    (hg : Gl X x := by rfl) (hdb : (x == ("__debug__" : Str)) = false := by decide) (he : starEach (e :: es) X.env = (false, eval e X.env) :: starEach es X.env := by rfl) (hpl : (backTo pos (starEach es X.env)).any (·.1) = false := by rfl) : DE X W (.Call (.Name x p) (e :: es) [] pos) (tGo W (spF X.K n F) dvs t) (fGo F dfl fA) := by
  obtain ⟨f, fd, ps, ds, hm, hk, bd, dd, hd, h⟩ := D.ex
  exact de_go h D.len (room.mono le) gd hm hk bd dd hd tk ha hg hdb he hpl
noncomputable abbrev rLenP (K : PySem.W.Frag) : List V → Hp → VK → Prop := fun xs H Q => ∃ x n, xs = [x] ∧ LenV K x H n ∧ Q (.int n) H
noncomputable abbrev rMin2 : List V → Hp → VK → Prop := fun xs H Q => ∃ i j, xs = [.int i, .int j] ∧ Q (.int (if j < i then j else i)) H
theorem de_len (hm : X.mg "len" = none) (ha : DA X W (e :: es) t fA) (hg : Gl X "len" := by rfl) (he : starEach (e :: es) X.env = (false, eval e X.env) :: starEach es X.env := by rfl) (hpl : (backTo pos (starEach es X.env)).any (·.1) = false := by rfl) : DE X W (.Call (.Name "len" p) (e :: es) [] pos) (tCB (rLenP X.K) t) (fB (gD lenD) fA) := de_B call_len bok_len PySem.boot_len hm ha hg (by decide) (by decide) he hpl
theorem de_min2 (hc : X.calm = true) (hm : X.mg "min" = none) (ha : DA X W (e :: es) t fA) (hg : Gl X "min" := by rfl) (he : starEach (e :: es) X.env = (false, eval e X.env) :: starEach es X.env := by rfl) (hpl : (backTo pos (starEach es X.env)).any (·.1) = false := by rfl) : DE X W (.Call (.Name "min" p) (e :: es) [] pos) (tCB rMin2 t) (fB (gD min2D) fA) := de_B (call_min2 hc) bok_min2 (by decide +kernel) hm ha hg (by decide) (by decide) he hpl
theorem de_isN (ha : DE X W a ta fa) (hb : DE X W b tb fb) (hm : behindInMarks .Is b = false := by rfl) : DE X W (.Compare a [.Is] [b] pos) (tOp (fun x y H Q => y = .non ∧ Q (.bl (decide (x = .non))) H) ta tb) (fBin (gIs false) fa fb) := de_cmp op_isN og_isN ha hb hm
theorem dt_isN (ha : DE X W a ta fa) (hb : DE X W b tb fb) (hm : behindInMarks .Is b = false := by rfl) : DT X W (.Compare a [.Is] [b] pos) (tTest (tOp (fun x y H Q => y = .non ∧ Q (.bl (decide (x = .non))) H) ta tb)) (fTest (fBin (gIs false) fa fb)) := dt_cmp op_isN og_isN ha hb hm
end
theorem units_of {k : Nat} {A : Around} (r : Room k A) : A.units + 65 < cLine := by have := r.un; omega
theorem unit1_of {k : Nat} {A : Around} (r : Room k A) : A.units + 1 < cLine := by have := r.un; omega
end L3
namespace L3
open PySem PySem.Spec PyProof.Rows L2
section
variable {X : Cx} {W : WX} {a b c e o : Expr} {es : List Expr} {p pos apos cpos : Pos} {ta tb tc te to : TE} {t : TA} {fa fb fc fe fo : FE} {fA : FA}
structure Glb (K : PySem.W.Frag) (mg : Str → Option Value) (x : Str) (v : V) (d : D) : Prop where
  ex : ∃ u, mg x = some u ∧ RelV v u
  rp : ∀ H, Rp K H v d
theorem de_globD {x : Str} {v : V} {d : D} (g : Glb X.K X.mg x v d) (hg : Gl X x := by rfl) (hd : (x == ("__debug__" : Str)) = false := by decide) : DE X W (.Name x pos) (tC v) (fC d) := by
  obtain ⟨u, hm, r⟩ := g.ex
  exact de_glob hm r g.rp hg hd
noncomputable def bools : List D → Option (List Bool)
  | [] => some []
  | .bl b :: ds => (bools ds).map fun bs => b :: bs
  | _ :: _ => none
theorem bools_eq : ∀ {ds : List D} {bs : List Bool}, bools ds = some bs → ds = bs.map D.bl
  | [], bs, e => by cases e; rfl
  | d :: ds, bs, e => by
    cases d <;> try cases e
    rename_i x
    have e : (bools ds).map (fun xs => x :: xs) = some bs := e
    cases e1 : bools ds with
    | none => rw [e1] at e; cases e
    | some zs => rw [e1] at e; cases e; rw [bools_eq e1]; rfl
theorem rps_bools {K : PySem.W.Frag} {H : Hp} : ∀ {bs : List Bool} {vs : List V}, Rps K H vs (bs.map D.bl) → vs = bs.map V.bl
  | [], _, .nil => rfl
  | _ :: ys, _, .cons q r => by cases q; rw [rps_bools r]; rfl
noncomputable def anyD : List D → Option D
  | [.lst ds] => (bools ds).map fun bs => .bl (bs.any id)
  | _ => none
noncomputable def allD : List D → Option D
  | [.lst ds] => (bools ds).map fun bs => .bl (bs.all id)
  | _ => none
theorem bok_all {K : PySem.W.Frag} : BOk K (rAll K) (gD allD) := bok_D fun H vs ds z rr e Q q => by
  unfold allD at e
  split at e
  · rename_i es
    cases e1 : bools es with
    | none => rw [e1] at e; cases e
    | some is =>
      rw [e1] at e; cases e
      cases rr with
      | cons r rs =>
        cases rs
        cases r with
        | lst rd r2 =>
          rw [bools_eq e1] at r2
          exact ⟨_, is, rfl, (by rw [← rps_bools r2]; exact .inl (.inl rd)), q _ fun H' => .bl _⟩
  · cases e
theorem de_all (hc : X.calm = true) (hm : X.mg "all" = none) (ha : DA X W (e :: es) t fA) (hg : Gl X "all" := by rfl) (he : starEach (e :: es) X.env = (false, eval e X.env) :: starEach es X.env := by rfl) (hpl : (backTo pos (starEach es X.env)).any (·.1) = false := by rfl) : DE X W (.Call (.Name "all" p) (e :: es) [] pos) (tCB (rAll X.K) t) (fB (gD allD) fA) := de_B (cr_all hc) bok_all (by decide +kernel) hm ha hg (by decide) (by decide) he hpl
noncomputable def absD : List D → Option D
  | [.int i] => some (.int (if i < 0 then -i else i))
  | _ => none
end
end L3
namespace L3
open PySem PySem.Spec PyProof.Rows L2
noncomputable def sLe (x y : Str) : Bool := !decide (y.cps.toList < x.cps.toList)
noncomputable def sortStrs (xs : List Str) : List Str := xs.mergeSort sLe
theorem sortStrs_perm {xs : List Str} : (sortStrs xs).Perm xs := List.mergeSort_perm _ _
@[simp] theorem sortStrs_mem {xs : List Str} {x : Str} : x ∈ sortStrs xs ↔ x ∈ xs := sortStrs_perm.mem_iff
@[simp] theorem sortStrs_len {xs : List Str} : (sortStrs xs).length = xs.length := sortStrs_perm.length_eq
noncomputable def gSortS : GB := fun rs S => match peeksR rs S with
  | some [.lst ds] => (strsD ds).bind fun ys => if ys.length < 64 then some (.val (.own ((sortStrs ys).map fun z => .dat (.str z))), S) else none
  | _ => none
section
variable {X : Cx} {W : WX} {a b c e o : Expr} {es : List Expr} {p pos apos cpos : Pos} {ta tb tc te to : TE} {t : TA} {fa fb fc fe fo : FE} {fA : FA}
end
end L3
namespace L3
open PySem PySem.Spec PyProof.Rows L2
noncomputable def pairsD : List D → Option (List (Key × D))
  | [] => some []
  | .tup [k, v] :: ds => (k.key).bind fun k => (pairsD ds).map fun r => (k, v) :: r
  | _ :: _ => none
noncomputable def mkD : List Key → List D → List (Key × D) → List Key × List D
  | ks, ds, [] => (ks, ds)
  | ks, ds, kd :: r => mkD (putKs kd.1 kd.2 ks ds).1 (putKs kd.1 kd.2 ks ds).2 r
noncomputable def gDict : GB := fun rs S => match rs with
  | [r] => match r.its S with
    | some (false, ds) => (pairsD ds).map fun kds => (.val (.node (.dK (mkD [] [] kds).1) ((mkD [] [] kds).2.map SV.dat)), S)
    | _ => none
  | _ => none
section
variable {X : Cx} {W : WX} {a b c e f o : Expr} {es : List Expr} {p pos apos cpos : Pos} {ta tb tc te tf to : TE} {t : TA} {fa fb fc fe ff fo : FE} {fA : FA}
noncomputable def SV.isD (S : Sto) : SV → Bool
  | .cell c => match S.μ[c]? with
    | some (.node (.dK _) _) => true
    | some (.node (.dT _) _) => true
    | _ => false
  | .node (.dK _) _ => true
  | .node (.dT _) _ => true
  | .dat (.dK _ _) => true
  | .dat (.dT _ _) => true
  | .dat (.wK _ _) => true
  | .dat (.wT _ _) => true
  | _ => false
noncomputable def fDGet1 (fo fe : FE) : FE := bindE fo fun ro S1 => if ((ro.sv S1).map fun x => x.isD S1) = some true then bindE fe (fun re S2 => (re.peek S2).bind fun k => (dgetR ro k S2).map fun o => .ok (o.getD (.d .non)) S2) S1 else none
noncomputable def fDGet2 (fo fe fx : FE) : FE := bindE fo fun ro S1 => if ((ro.sv S1).map fun x => x.isD S1) = some true then bindE fe (fun re => bindE fx fun rx S3 => (re.peek S3).bind fun k => (dgetR ro k S3).map fun o => .ok (o.getD rx) S3) S1 else none
end
end L3
namespace L3
open PySem PySem.Spec PyProof.Rows L2
section
variable {K : PySem.W.Frag} {W : WX} {S S' : Sto} {σ : Sl} {H Φ : Hp} {A F G T : List Addr} {v : V} {r : R}
noncomputable def R.itl (S : Sto) (r : R) : Option (List D) := match r.sv S with
  | some (.dat (.lst ds)) => some ds
  | some (.node .lst xs) => match r with
    | .val _ => peeks xs
    | .bor _ _ => dats xs
  | _ => none
noncomputable def extAt (ro : R) (ds : List D) (S : Sto) : Option Sto := match ro with
  | .bor i p => match S.sub i p with
    | some (.node .lst xs) => if xs.length + ds.length ≤ 1000000 then S.putp i p (.own (xs ++ ds.map SV.dat)) else none
    | _ => none
  | _ => none
end
noncomputable def fExtend (fo fe : FE) : FS := bindS fo fun ro S1 => match ro.sv S1 with
  | some (.node .lst _) => bindS fe (fun re S2 => match re.itl S2 with
    | some ds => (extAt ro ds S2).map SO.nx
    | none => none) S1
  | _ => none
section
variable {X : Cx} {W : WX} {o e : Expr} {pos apos cpos : Pos} {to te : TE} {fo fe : FE}
noncomputable def fAugA (i : Nat) (fe : FE) : FS := fun S => match S.ρ[i]? with
  | some (some (.node .lst _)) => bindS fe (fun re S1 => match re.itl S1 with
    | some ds => (extAt (.bor i []) ds S1).map SO.nx
    | none => none) S
  | _ => fAug i gAdd2 fe S
end
end L3
namespace L3
open PySem PySem.Spec PyProof.Rows L2
section
variable {prog : Program} {w : World} {A : Around} {E : Value → Shared → Prop} {s : Shared} {z TI TO j1 j2 : Addr} {u v : List Addr} {n i : Nat} {P1 P2 : Nat → Value → Prop} {St1 St2 : Nat → Heap → Prop} {c1 c2 : Value}
end
end L3
namespace L3
open PySem PySem.Spec PyProof.Rows L2
section
variable {prog : Program} {w : World} {A : Around} {E : Value → Shared → Prop} {s : Shared}
end
structure Ap2 (z TI TO j1 j2 a b : Addr) : Prop where
  s : ZipSep2 z TI TO j1 j2 [j1, a] [j2, b]
  d1 : a ≠ j1
  d2 : b ≠ j2
end L3
namespace L3
open PySem PySem.Spec PyProof.Rows L2
end L3
namespace L3
open PySem PySem.Spec PyProof.Rows L2
noncomputable def seqD : D → Option (List D)
  | .lst ds => some ds
  | .tup ds => some ds
  | .kl ds => some ds
  | .kt ds => some ds
  | _ => none
noncomputable def pair2 (p : D × D) : D := .tup [p.1, p.2]
noncomputable def enumD (ds : List D) : List D := ((List.range ds.length).zip ds).map fun p => .tup [.int (p.1 : Int), p.2]
noncomputable def fZipS (fa : FA) : FI := bindE fa fun rs S => match escs rs S with
  | some ([x, y], S1) => (seqD x).bind fun ds => (seqD y).bind fun es => if ds.length = es.length then some (.ok ((ds.zip es).map pair2) S1) else none
  | _ => none
noncomputable def fEnum (fa : FA) : FI := bindE fa fun rs S => match escs rs S with
  | some ([x], S1) => (seqD x).map fun ds => .ok (enumD ds) S1
  | _ => none
section
variable {X : Cx} {W : WX} {e e2 : Expr} {ta : TA} {fa : FA} {p pos tpos kpos bpos : Pos} {elts : List Expr} {kk jj : Nat}
end
end L3
namespace L3
open PySem PySem.Spec PyProof.Rows L2
theorem funD_mk {K : PySem.W.Frag} {x qual : Str} {st : Stmt} {f T : Addr} {oc : Value} {od an : Option Addr} {osl : Array (Option Value)} {kV doc pm cdv ct : Value} {c1 : Value} {d1 : Option Addr} {its : List Value} {n1 : Nat} {s1 : Array (Option Value)} {dvs : List V}
    (l : K.lookup f = some ⟨oc, od, .func (PySem.W.fnOf x qual (defArgs st) (defBody st) (defScope st) (.ref T) kV doc pm an cdv ct), osl⟩)
    (c : PySem.W.codeIn K cdv qual = true) (k : PySem.W.keepIn K (.ref f) = true) (lT : K.lookup T = some ⟨c1, d1, .seq its.toArray n1, s1⟩) (v : Vals dvs its) (ne : dvs ≠ []) :
    FunD K x qual (defArgs st) (defBody st) (defScope st) dvs [] f (PySem.W.fnOf x qual (defArgs st) (defBody st) (defScope st) (.ref T) kV doc pm an cdv ct) :=
  ⟨⟨oc, od, .ref T, kV, doc, pm, an, cdv, ct, osl, rfl, l, c, .inr ⟨ne, T, _, its, n1, rfl, lT, rfl, v⟩, .inl rfl⟩, k⟩
theorem df_ofD {P : Program} {w : World} {K : PySem.W.Frag} {mg : Str → Option Value} {base : Heap} {k m n : Nat} {x : Str} {fb : FS} {f : Addr} {fd : FuncData} {ps : List Str} {dvs : List V} {dfl : List SV} (h : FG P w K mg base k f fd ps (spF K n (runF n m fb))) (hm : mg x = some (.ref f)) (hk : PySem.W.keepIn K (.ref f) = true)
    (bd : ∃ ds, Vals dvs ds ∧ Binds K fd ps ds) (hd : Dfl K dvs dfl) : Df P w K mg base k x n (runF n m fb) dvs dfl := by
  obtain ⟨ds, dd, b⟩ := bd
  exact ⟨⟨f, fd, ps, ds, hm, hk, b, dd, hd, h⟩, runF_len⟩
end L3
namespace L3
open PySem PySem.Spec PyProof.Rows L2
section
variable {prog : Program} {w : World} {A : Around} {E : Value → Shared → Prop} {s : Shared}
end
section
variable {X : Cx} {W : WX} {e : Expr} {te : TE} {fe : FE} {k : Nat} {p1 p2 p3 pos : Pos}
noncomputable def gRev (r : R) (S : Sto) : Option (R × Sto) := match r.its S with
  | some (false, ds) => some (.val (.own (ds.reverse.map SV.dat)), S)
  | some (true, ds) => some (.d (.tup ds.reverse), S)
  | none => none
noncomputable def fRev (fe : FE) : FE := bindE fe fun r S => (gRev r S).map fun z => .ok z.1 z.2
end
end L3
namespace L3
open PySem PySem.Spec PyProof.Rows L2
section
variable {X : Cx} {W : WX} {pos : Pos}
noncomputable def fMov (i : Nat) : FE := fun S => match S.ρ[i]? with
  | some (some x) => some (.ok (.val x) { S with ρ := S.ρ.set i none })
  | _ => none
end
section
variable {X : Cx} {W : WX} {tg e : Expr} {te : TE} {fe : FE} {p pos : Pos}
end
section
variable {X : Cx} {W : WX} {o e : Expr} {pos apos cpos ipos : Pos} {ij : Nat} {to te : TE} {fo fe : FE}
end
noncomputable def tyD : D → Option String
  | .non => some "NoneType"
  | .bl _ => some "bool"
  | .int _ => some "int"
  | .str _ => some "str"
  | .lst _ => some "list"
  | .tup _ => some "tuple"
  | .dK _ _ => some "dict"
  | _ => none
theorem tyD_ok {K : PySem.W.Frag} {H : Hp} {v : V} {d : D} {n : String} (r : Rp K H v d) (e : tyD d = some n) : TyX K H v (.type n) := by
  cases r with
  | non => cases e; exact .base .non
  | bl b => cases e; exact .base (.bl b)
  | int i => cases e; exact .base (.int i)
  | str x => cases e; exact .base (.str x)
  | lst q _ => cases e; exact .base (.lst q)
  | tup q _ => cases e; exact .base (.tup q)
  | dK q _ _ =>
    cases e
    rcases q with q | ⟨o, q⟩
    · exact .base (.dK q)
    · exact .fDict q
  | _ => cases e
noncomputable def isiD (T : String) (d : D) : Option D := (tyD d).bind fun n => (kitB n T).map D.bl
noncomputable def fIsi (T : String) (fe : FE) : FE := bindE fe fun r S => ((r.peek S).bind (isiD T)).map fun z => .ok (.d z) S
section
variable {X : Cx} {W : WX} {e : Expr} {te : TE} {fe : FE} {p p2 pos : Pos} {x : Str} {T : String}
theorem de_isi (hm : X.mg "isinstance" = none) (hm2 : X.mg x = none) (hv : bootBuiltins x = some (.type T)) (he : DE X W e te fe) (hg : Gl X "isinstance" := by rfl) (hg2 : Gl X x := by rfl) (hn : x ≠ "__name__" := by decide) (hd : (x == ("__debug__" : Str)) = false := by decide)
    (hs1 : starEach [e, .Name x p2] X.env = (false, eval e X.env) :: starEach [.Name x p2] X.env := by rfl) (hs2 : starEach [.Name x p2] X.env = (false, eval (.Name x p2) X.env) :: starEach [] X.env := by rfl) (hpl : (backTo pos (starEach [.Name x p2] X.env)).any (·.1) = false := by rfl) :
    DE X W (.Call (.Name "isinstance" p) [e, .Name x p2] [] pos) (tCB (rIsi X.K) (tCons te (tCons (tC (.ty T)) tNil))) (fIsi T fe) :=
  ⟨pe_callB call_isi hg hm PyProof.Rows.boot_isinstance (pa_cons he.pe (pa_cons (pe_bltn (v := .ty T) hg2 hm2 hv rfl hn hd) pa_nil hs2) hs1) (by decide) (by decide) hs1 hpl, fun S σ H Φ A F G st out ho Q q => by
    refine run1 (t := te) he.ev st ho q.x fun r S1 v H1 Φ1 A1 T1 F1 G1 sp st1 rv nd fz h1 => ?_
    cases e1 : r.peek S1 with
    | none => rw [e1] at h1; cases h1
    | some d =>
      rw [e1] at h1
      have rp := rv.rp st1 e1
      have h1 : (isiD T d).map (fun z => Out.ok (R.d z) S1) = some out := h1
      unfold isiD at h1
      cases en : tyD d with
      | none => rw [en] at h1; cases h1
      | some n =>
        rw [en] at h1
        have h1 : ((kitB n T).map D.bl).map (fun z => Out.ok (R.d z) S1) = some out := h1
        cases ek : kitB n T with
        | none => rw [ek] at h1; cases h1
        | some b =>
          rw [ek] at h1; cases h1
          exact ⟨v, .ty T, .type n, .type T, b, rfl, .ty T, tyD_ok rp en, kit_ty ek, q _ H1 Φ1 A1 [] F1 G1 sp.drop st1 (RS.dat (.bl b)) (by simpa using st1.nd) fz⟩⟩
end
end L3
namespace L3
open PySem PySem.Spec PyProof.Rows L2
noncomputable def wkD : Nd → List D → Option D
  | .dK ks, ds => some (.wK ks ds)
  | .dT ks, ds => some (.wT ks ds)
  | _, _ => none
noncomputable def lkD : SV → Option D
  | .node n xs => (peeks xs).bind fun ds => wkD n ds
  | _ => none
noncomputable def lkSV (x : SV) : SV := match lkD x with
  | some d => .dat d
  | none => x
section
variable {K : PySem.W.Frag} {S : Sto} {σ : Sl} {H Φ : Hp} {A F G T : List Addr} {a : Addr}
end
noncomputable def fGoW (f : FnS) (dfl : List SV) (fa : FA) : FE := bindE fa fun rs S => match argsOf rs S with
  | some (as, S1) => match f (as ++ dfl) S1.μ with
    | some (.ok x μ) => some (.ok (.val (lkSV x)) { S1 with μ := μ })
    | some (.exc e μ) => some (.exc e { S1 with μ := μ })
    | none => none
  | none => none
section
variable {X : Cx} {W : WX} {e : Expr} {es : List Expr} {p pos : Pos} {t : TA} {fA : FA} {k k' n : Nat} {x : Str} {F : FnS} {dvs : List V} {dfl : List SV}
end
noncomputable def fLkS (i : Nat) (f : FS) : FS := fun S => match S.ρ[i]? with
  | some (some x) => match lkD x with
    | some d => f { S with ρ := S.ρ.set i (some (.dat d)) }
    | none => f S
  | _ => f S
section
variable {X : Cx} {W : WX} {s : Stmt} {t : TS} {f : FS} {i : Nat}
end
end L3
namespace L3
open PySem PySem.Spec PyProof.Rows L2
section
variable {K : PySem.W.Frag} {Φ0 : Hp} {a : Addr} {o : Obj} {ks : List Key} {vs : List V} {ds : List D}
noncomputable def itemD (p : Key × D) : D := .tup [keyD p.1, p.2]
end
noncomputable def fVals (fe : FE) : FI := bindE fe fun r S => match r.sv S with
  | some (.dat (.wK ks ds)) => some (.ok ds S)
  | _ => none
noncomputable def fPairsD (fe : FE) : FI := bindE fe fun r S => match r.sv S with
  | some (.dat (.wK ks ds)) => some (.ok ((ks.zip ds).map itemD) S)
  | _ => none
section
variable {X : Cx} {W : WX} {tg e : Expr} {te : TE} {fe : FE} {apos cpos tpos : Pos} {elts : List Expr} {kk : Nat}
end
section
variable {X : Cx} {W : WX} {o e f : Expr} {p pos apos cpos : Pos} {to te tx : TE} {fo fe fx : FE}
end
end L3
namespace L3
open PySem PySem.Spec PyProof.Rows L2
section
variable {K : PySem.W.Frag} {W : WX} {S S' : Sto} {σ : Sl} {H Φ : Hp} {A F G T Fx : List Addr} {v w iv : V}
end
noncomputable def setdC (c : Nat) (k : Key) (x : D) (S : Sto) : Option (D × Sto) := match S.μ[c]? with
  | some (.node (.dK ks) xs) => if ks.length < 1000000 then match idxK k ks with
      | some j => match xs[j]? with
        | some (.dat d) => some (d, S)
        | _ => none
      | none => some (x, S.cellp c (.node (.dK (ks ++ [k])) (xs ++ [.dat x])))
    else none
  | _ => none
noncomputable def fSetd (fo fk fx : FE) : FE := bindE fo fun ro S1 => match ro.sv S1 with
  | some (.cell c) => if (SV.cell c).isD S1 = true then bindE fk (fun rk => bindE fx fun rx S3 => match rx.sv S3 with
    | some (.dat x) => ((rk.peek S3).bind D.key).bind fun k => (setdC c k x S3).map fun z => .ok (.d z.1) z.2
    | _ => none) S1 else none
  | _ => none
end L3
namespace L3
open PySem PySem.Spec PyProof.Rows L2
noncomputable def setdAt (ro : R) (k : Key) (S : Sto) : Option (R × Sto) := match ro with
  | .bor i p => match S.sub i p with
    | some (.node (.dK ks) xs) => if ks.length < 1000000 then match idxK k ks with
        | some j => match xs[j]? with
          | some (.node .lst _) => some (.bor i (p ++ [j]), S)
          | _ => none
        | none => (S.putp i p (.node (.dK (ks ++ [k])) (xs ++ [.own []]))).map fun S' => (.bor i (p ++ [ks.length]), S')
      else none
    | _ => none
  | _ => none
noncomputable def fSetdApp (fo fk fe : FE) : FS := bindS fo fun ro S1 => match ro.sv S1 with
  | some (.node (.dK _) _) => bindS fk (fun rk S2 => ((rk.peek S2).bind D.key).bind fun k => (setdAt ro k S2).bind fun z => bindS fe (fun re S4 => match re.kid S4 with
      | some (x, S5) => (pushAt z.1 x S5).map SO.nx
      | none => none) z.2) S1
  | _ => none
section
variable {K : PySem.W.Frag} {W : WX} {S S' : Sto} {σ : Sl} {H Φ : Hp} {A F G T : List Addr} {v : V}
end
section
variable {X : Cx} {W : WX} {o e k : Expr} {pos apos cpos bpos dpos lpos : Pos} {to tk te : TE} {fo fk fe : FE}
end
end L3
namespace L3
open PySem PySem.Spec PyProof.Rows L2
inductive Src where
  | pos (i : Nat) | dfl (i : Nat) | kw (i : Nat)
noncomputable def Src.get {α : Type} (us its ws : List α) : Src → Option α
  | .pos i => us[i]?
  | .dfl i => its[i]?
  | .kw i => ws[i]?
noncomputable def pick {α : Type} (us its ws : List α) : List Src → List α
  | [] => []
  | s :: ss => match s.get us its ws with
    | some v => v :: pick us its ws ss
    | none => pick us its ws ss
section
variable {K : PySem.W.Frag} {Φ H : Hp} {A : List Addr}
end
structure DfK (P : Program) (w : World) (K : PySem.W.Frag) (mg : Str → Option Value) (base : Heap) (k : Nat) (x : Str) (n : Nat) (F : FnS) (np : Nat) (ks : List Str) (dvs : List V) (dfl : List SV) (ss : List Src) : Prop where
  ex : ∃ (f : Addr) (fd : FuncData) (ps : List Str) (its : List Value), mg x = some (.ref f) ∧ PySem.W.keepIn K (.ref f) = true ∧ KBn K fd ps np ks (fun us ws => pick us its ws ss) (fun vs zs => pick vs dvs zs ss) ∧ Dfl K dvs dfl ∧ FG P w K mg base k f fd ps (spF K n F)
  len : ∀ as μ res, F as μ = some res → as.length = n
section
variable {X : Cx} {W : WX} {k k' n np : Nat} {f : Addr} {fd : FuncData} {ps ks : List Str} {sp : Sp} {x : Str} {p pos : Pos} {e : Expr} {es : List Expr} {kws : List Keyword} {t tk : TA} {g : List Value → List Value → List Value} {gV : List V → List V → List V}
end
noncomputable def fGoN (wk : Bool) (f : FnS) (dfl : List SV) (ss : List Src) (np nk : Nat) (fa fk : FA) : FE := bindE fa fun rs => bindE fk fun ks S => if rs.length = np ∧ ks.length = nk then match argsOf (rs ++ ks) S with
  | some (as, S1) => match f (pick (as.take np) dfl (as.drop np) ss) S1.μ with
    | some (.ok x μ) => some (.ok (.val (if wk = true then lkSV x else x)) { S1 with μ := μ })
    | some (.exc e μ) => some (.exc e { S1 with μ := μ })
    | none => none
  | none => none else none
section
variable {X : Cx} {W : WX} {e : Expr} {es : List Expr} {kws : List Keyword} {p pos kpos : Pos} {t tk : TA} {fA fK : FA} {k k' n np : Nat} {x nm : Str} {F : FnS} {dvs : List V} {dfl : List SV} {ks : List Str} {ss : List Src} {te : TE} {fe : FE}
structure DK (X : Cx) (W : WX) (kws : List Keyword) (t : TA) (f : FA) : Prop where
  pk : PK X kws t
  ev : EVA X.K W t f
end
end L3
namespace L3
open PySem PySem.Spec PyProof.Rows L2
section
variable {K : PySem.W.Frag} {Φ H : Hp} {A A' : List Addr} {n : Nat}
end
section
variable {X : Cx} {W : WX} {s : Stmt} {t : TS} {f : FS} {i : Nat}
end
end L3
namespace L3
open PySem PySem.Spec PyProof.Rows L2
section
variable {K : PySem.W.Frag} {W : WX} {S S' : Sto} {σ : Sl} {H Φ : Hp} {A F G T : List Addr} {v : V}
noncomputable def chAt (g : List SV → List SV) (ro : R) (S : Sto) : Option Sto := match ro with
  | .bor i p => match S.sub i p with
    | some (.node .lst xs) => if xs.length < 1000000 then S.putp i p (.own (g xs)) else none
    | _ => none
  | _ => none
noncomputable def fCh (g : List SV → List SV) (fo : FE) : FS := bindS fo fun ro S1 => (chAt g ro S1).map SO.nx
end
section
variable {X : Cx} {W : WX} {o : Expr} {pos apos cpos : Pos} {to : TE} {fo : FE}
end
noncomputable def seqT : D → Option (Bool × List D)
  | .lst ds => some (false, ds)
  | .tup ds => some (true, ds)
  | .kl ds => some (false, ds)
  | .kt ds => some (true, ds)
  | _ => none
noncomputable def fZip (fa : FA) : FI := bindE fa fun rs S => match escs rs S with
  | some ([x, y], S1) => (seqT x).bind fun u => (seqT y).bind fun w => if u.1 = w.1 then some (.ok ((u.2.zip w.2).map pair2) S1) else none
  | _ => none
section
variable {X : Cx} {W : WX} {e e2 : Expr} {ta : TA} {fa : FA} {p pos tpos : Pos} {elts : List Expr} {kk : Nat}
end
section
variable {X : Cx} {W : WX} {e : Expr} {es : List Expr} {p pos : Pos} {t : TA} {fA : FA}
end
end L3
namespace L3
open PySem PySem.Spec PyProof.Rows L2
noncomputable def keyV (e : Int × Value) : Key := match e.2 with
  | .int k _ => .inl k
  | .str x _ => .inr x
  | _ => .inl 0
structure SetA (P : Program) (w : World) (h : Heap) (a : Addr) (ks : List Key) : Prop where
  ex : ∃ (ob : Obj) (rows : Array (Int × Value)) (ep : Nat) (tb : SetTable), h.get? a = some ob ∧ ob.ExactSet ∧ ob.data = .set rows ep tb ∧ ElemsOf (mixKind P w) rows.toList ∧ (rows.toList.map keyV).Perm ks ∧ rows.size < scanBound ∧ tb.fits rows.size = true ∧
    Ris tb.place.toList ∧ (w.params.followText "set-order" = true ∨ tb.led = true)
  nd : ks.Nodup
section
variable {P : Program} {w : World} {h h' : Heap} {a : Addr} {ks : List Key}
end
section
variable {P : Program} {w : World} {A : Around} {E : Value → Shared → Prop} {s : Shared} {a : Addr} {ks : List Key}
end
end L3
namespace L3
open PySem PySem.Spec PyProof.Rows L2
section
variable {P : Program} {w : World} {A : Around} {R : Result → Shared → Prop} {I : Addr} {fp wr : List Addr} {G : Array GenState → Array GenState → Prop} {n : Nat} {Pv : Nat → Value → Prop} {St : Nat → Shared → Prop}
end
section
variable {P : Program} {w : World} {A : Around} {E : Value → Shared → Prop} {s : Shared}
end
end L3
namespace L3
open PySem PySem.Spec PyProof.Rows L2
section
variable {X : Cx}
end
end L3
namespace L3
open PySem PySem.Spec PyProof.Rows L2
noncomputable def dd {α : Type} [DecidableEq α] : List α → List α
  | [] => []
  | x :: r => x :: (dd r).filter fun y => decide (y ≠ x)
noncomputable def strK : Key → Option Str
  | .inr x => some x
  | .inl _ => none
noncomputable def strsK : List Key → Option (List Str)
  | [] => some []
  | k :: ks => (strK k).bind fun x => (strsK ks).map fun xs => x :: xs
noncomputable def fSortSet (fe : FE) : FE := bindE fe fun r S => match r.its S with
  | some (_, ds) => (keysD ds).bind fun ks => (strsK ks).bind fun ss => if ks.length < 4000 then some (.ok (.val (.own ((sortStrs (dd ss)).map fun z => .dat (.str z)))) S) else none
  | none => none
noncomputable def fLenSet (fe : FE) : FE := bindE fe fun r S => match r.its S with
  | some (_, ds) => (keysD ds).bind fun ks => if ks.length < 4000 then some (.ok (.i (dd ks).length) S) else none
  | none => none
section
variable {X : Cx} {W : WX} {e : Expr} {p p2 q pos : Pos} {te : TE} {fe : FE}
end
end L3
namespace L3
open PySem PySem.Spec PyProof.Rows L2
noncomputable def D.sc : D → Bool
  | .non => true
  | .bl _ => true
  | .int _ => true
  | .str _ => true
  | _ => false
theorem sc_rp {K : PySem.W.Frag} {H H' : Hp} {v : V} {d : D} (h : Rp K H v d) (e : d.sc = true) : Rp K H' v d := by
  cases h <;> first | (cases e; done) | exact .non | exact .bl _ | exact .int _ | exact .str _
noncomputable def fGoP (f : FnS) (dfl : List SV) (fa : FA) : FE := bindE fa fun rs S => (peeksR rs S).bind fun ds => match f (ds.map SV.dat ++ dfl) [] with
  | some (.ok (.dat d) _) => if d.sc = true then some (.ok (.d d) S) else none
  | _ => none
section
variable {X : Cx} {W : WX} {e : Expr} {es : List Expr} {p pos : Pos} {t : TA} {fA : FA} {k k' n : Nat} {x : Str} {F : FnS} {dvs : List V} {dfl : List SV}
end
end L3
namespace L3
open PySem PySem.Spec PyProof.Rows L2
noncomputable def hdI : List D → Bool
  | .int _ :: _ => true
  | _ => false
noncomputable def hdS : List SV → Bool
  | .dat (.int _) :: _ => true
  | _ => false
mutual
noncomputable def D.lo : D → Bool
  | .lst xs => hdI xs && los xs
  | .kl xs => hdI xs && los xs
  | .tup xs => los xs
  | .kt xs => los xs
  | .dK _ _ => false
  | .dT _ _ => false
  | .wK _ _ => false
  | .wT _ _ => false
  | .non => true
  | .bl _ => true
  | .int _ => true
  | .str _ => true
  | .fn _ => true
  | .exc _ _ _ => false
noncomputable def los : List D → Bool
  | [] => true
  | d :: r => d.lo && los r
end
mutual
noncomputable def SV.lo : SV → Bool
  | .dat d => d.lo
  | .cell _ => true
  | .node _ xs => slos xs
noncomputable def slos : List SV → Bool
  | [] => true
  | x :: r => x.lo && slos r
end
noncomputable def ndL : Nd → List SV → Bool
  | .lst, xs => !hdS xs
  | _, _ => true
mutual
noncomputable def SV.nl : SV → Bool
  | .dat _ => true
  | .cell _ => true
  | .node n xs => ndL n xs && nls xs
noncomputable def nls : List SV → Bool
  | [] => true
  | x :: r => x.nl && nls r
end
noncomputable def nlo : Option SV → Bool
  | some x => x.nl
  | none => true
noncomputable def nlR : R → Bool
  | .val x => x.nl
  | .bor _ _ => true
structure Nl (H : Hp) (b : Addr) : Prop where
  ex : ∃ (n : Nd) (vs : List V), H b = some (n.ho vs) ∧ (n = .lst → ∀ i ws, vs ≠ .int i :: ws)
section
variable {K : PySem.W.Frag} {Φ H : Hp} {A : List Addr} {L : List Addr}
end
noncomputable def R.lend (S : Sto) (r : R) : Option SV := match r.sv S with
  | some (.cell k) => some (.cell k)
  | some x => x.peek.map .dat
  | none => none
noncomputable def lends : List R → Sto → Option (List SV)
  | [], _ => some []
  | r :: rs, S => (r.lend S).bind fun x => (lends rs S).map fun xs => x :: xs
noncomputable def fGoL (f : FnS) (dfl : List SV) (fa : FA) : FE := bindE fa fun rs S => if (rs.all nlR && S.ρ.all nlo) = true then (lends rs S).bind fun as => match f (as ++ dfl) S.μ with
    | some (.ok (.dat d) μ) => if (d.lo && slos μ) = true then some (.ok (.d d) { S with μ := μ }) else none
    | _ => none
  else none
section
variable {X : Cx} {W : WX} {e : Expr} {es : List Expr} {p pos : Pos} {t : TA} {fA : FA} {k k' n : Nat} {x : Str} {F : FnS} {dvs : List V} {dfl : List SV}
end
end L3
namespace PySem
end PySem
namespace L3
open PySem PySem.Spec PyProof.Rows L2
section
variable {X : Cx}
end
section
variable {X : Cx} {W : WX} {e : Expr} {es : List Expr} {p pos : Pos} {t : TA} {fA : FA}
end
end L3
namespace L3
open PySem PySem.Spec PyProof.Rows L2
section
variable {prog : Program} {w : World} {A : Around} {E : Value → Shared → Prop} {s : Shared}
end
section
variable {X : Cx}
end
section
variable {X : Cx} {W : WX} {e : Expr} {es : List Expr} {p pos : Pos} {t : TA} {fA : FA}
end
end L3
namespace L3
open PySem PySem.Spec PyProof.Rows L2
section
variable {X : Cx}
end
noncomputable def R.ita (S : Sto) (r : R) : Option (Bool × List D) := match r.itl S with
  | some ds => some (false, ds)
  | none => match r.sv S with
    | some (.dat (.tup ds)) => some (true, ds)
    | _ => none
noncomputable def fExtendA (fo fe : FE) : FS := bindS fo fun ro S1 => match ro.sv S1 with
  | some (.node .lst _) => bindS fe (fun re S2 => match re.ita S2 with
    | some td => (extAt ro td.2 S2).map SO.nx
    | none => none) S1
  | _ => none
section
variable {X : Cx} {W : WX} {o e : Expr} {pos apos cpos : Pos} {to te : TE} {fo fe : FE}
end
end L3
namespace L3
open PySem PySem.Spec PyProof.Rows L2
inductive Dep {α : Sort u} (x : α) : Type | mk
inductive WbDep {α : Type} (f : Sto → Option (Out α)) (Q : α → Sto → Prop) (X : Ex → Sto → Prop) : Type | mk
inductive WsDep (f : FS) (P : SO → Prop) : Type | mk
inductive WfDep (Q : SV → List SV → Prop) (X : Ex → List SV → Prop) : Type | mk
inductive BrDep (p q : Prop) : Type | mk
noncomputable def Ob {α : Type} (o : Option α) (k : α → Prop) (_ : Dep k := .mk) : Prop := ∃ x, o = some x ∧ k x
noncomputable def Gb {α β : Type} (o : Option (α × β)) (k : α → β → Prop) (_ : Dep k := .mk) : Prop := ∃ x y, o = some (x, y) ∧ k x y
noncomputable def Wb {α : Type} (f : Sto → Option (Out α)) (S : Sto) (Q : α → Sto → Prop) (X : Ex → Sto → Prop) (_ : WbDep f Q X := .mk) : Prop := ∃ r, f S = some r ∧ match r with
  | .ok a S' => Q a S'
  | .exc e S' => X e S'
noncomputable def Ws (f : FS) (S : Sto) (P : SO → Prop) (_ : WsDep f P := .mk) : Prop := ∃ o, f S = some o ∧ P o
noncomputable def Wf (F : FnS) (as : List SV) (μ : List SV) (Q : SV → List SV → Prop) (X : Ex → List SV → Prop) (_ : WfDep Q X := .mk) : Prop := ∃ r, F as μ = some r ∧ match r with
  | .ok x μ' => Q x μ'
  | .exc e μ' => X e μ'
section
variable {α β γ : Type} {k : α → Prop} {kk : α → β → Prop} {x : α} {y : β}
@[simp] theorem ob_some : Ob (some x) k = k x := by unfold Ob; simp
@[simp] theorem ob_none : Ob none k = False := by unfold Ob; simp
@[simp] theorem gb_some : Gb (some (x, y)) kk = kk x y := propext ⟨fun ⟨a, b, e, q⟩ => by cases e; exact q, fun q => ⟨x, y, rfl, q⟩⟩
@[simp] theorem gb_some' {z : α × β} : Gb (some z) kk = kk z.1 z.2 := by obtain ⟨a, b⟩ := z; simp
@[simp] theorem gb_none : Gb none kk = False := by unfold Gb; simp
@[simp] theorem ob_if {c : Prop} [Decidable c] {o : Option α} : Ob (if c then o else none) k = (c ∧ Ob o k) := by
  by_cases h : c <;> simp [h]
@[simp] theorem gb_if {c : Prop} [Decidable c] {o : Option (α × β)} : Gb (if c then o else none) kk = (c ∧ Gb o kk) := by
  by_cases h : c <;> simp [h]
@[simp] theorem gb_ifn {c : Prop} [Decidable c] {o : Option (α × β)} : Gb (if c then none else o) kk = (¬c ∧ Gb o kk) := by
  by_cases h : c <;> simp [h]
@[simp] theorem gb_map {o : Option γ} {f : γ → α × β} : Gb (o.map f) kk = Ob o fun z => kk (f z).1 (f z).2 := by cases o <;> simp
@[simp] theorem ob_map {o : Option γ} {f : γ → α} : Ob (o.map f) k = Ob o fun z => k (f z) := by cases o <;> simp
@[simp] theorem gb_bind {o : Option γ} {f : γ → Option (α × β)} : Gb (o.bind f) kk = Ob o fun z => Gb (f z) kk := by cases o <;> simp
@[simp] theorem ob_bind {o : Option γ} {f : γ → Option α} : Ob (o.bind f) k = Ob o fun z => Ob (f z) k := by cases o <;> simp
end
section
variable {α β : Type} {f : Sto → Option (Out α)} {g : α → Sto → Option (Out β)} {S S' : Sto} {Q : α → Sto → Prop} {Q2 : β → Sto → Prop} {X : Ex → Sto → Prop} {P : SO → Prop}
theorem wb_ext {Q' : α → Sto → Prop} (h : ∀ a S, Q a S = Q' a S) : Wb f S Q X = Wb f S Q' X := by
  have : Q = Q' := funext fun a => funext fun S => h a S
  subst this; rfl
theorem wb_mono {Q' : α → Sto → Prop} {X' : Ex → Sto → Prop} (h : Wb f S Q X) (hQ : ∀ a S', Q a S' → Q' a S') (hX : ∀ e S', X e S' → X' e S') : Wb f S Q' X' := by
  obtain ⟨r, e, q⟩ := h
  refine ⟨r, e, ?_⟩
  cases r with
  | ok a S1 => exact hQ _ _ q
  | exc e S1 => exact hX _ _ q
theorem wf_mono {F : FnS} {as : List SV} {μ : List SV} {Q Q' : SV → List SV → Prop} {X X' : Ex → List SV → Prop} (h : Wf F as μ Q X) (hQ : ∀ a S', Q a S' → Q' a S') (hX : ∀ e S', X e S' → X' e S') : Wf F as μ Q' X' := by
  obtain ⟨r, e, q⟩ := h
  refine ⟨r, e, ?_⟩
  cases r with
  | ok a S1 => exact hQ _ _ q
  | exc e S1 => exact hX _ _ q
@[simp] theorem wb_bind : Wb (bindE f g) S Q2 X = Wb f S (fun a S1 => Wb (g a) S1 Q2 X) X := by
  unfold Wb bindE
  cases e : f S with
  | none => simp
  | some r => cases r <;> simp
@[simp] theorem wb_ret {a : α} : Wb (retE a) S Q X = Q a S := by unfold Wb retE; simp
end
section
variable {S S' : Sto} {Q : R → Sto → Prop} {QT : Bool → Sto → Prop} {QA : List R → Sto → Prop} {QI : List D → Sto → Prop} {X : Ex → Sto → Prop} {P : SO → Prop} {fa fb fe fo fi : FE} {ft fu : FT} {fA : FA} {f g : FS} {i : Nat} {d : D} {ρ : List (Option SV)} {μ : List SV}
@[simp] theorem wb_var : Wb (fVar i) ⟨ρ, μ⟩ Q X = Ob (ρ[i]?) fun o => Ob o fun _ => Q (.bor i []) ⟨ρ, μ⟩ := by
  unfold Wb fVar
  cases e : ρ[i]? with
  | none => simp [e]
  | some o => cases o <;> simp [e]
@[simp] theorem wb_c : Wb (fC d) S Q X = Q (.d d) S := by unfold Wb fC; simp
theorem wb_of {h : Sto → Option (R × Sto)} : Wb (fun S => (h S).map fun z => .ok z.1 z.2) S Q X = Gb (h S) Q := by
  unfold Wb
  cases e : h S <;> simp [e]
@[simp] theorem wb_bin {g : G2} : Wb (fBin g fa fb) S Q X = Wb fa S (fun ra S1 => Wb fb S1 (fun rb S2 => Gb (g ra rb S2) Q) X) X := by
  unfold fBin; rw [wb_bind]; refine wb_ext fun ra S1 => ?_; rw [wb_bind]; refine wb_ext fun rb S2 => ?_; exact wb_of (h := fun S => g ra rb S)
@[simp] theorem wb_B {g : GB} : Wb (fB g fA) S Q X = Wb fA S (fun rs S1 => Gb (g rs S1) Q) X := by
  unfold fB; rw [wb_bind]; refine wb_ext fun rs S1 => ?_; exact wb_of (h := fun S => g rs S)
@[simp] theorem wb_test : Wb (fTest fe) S QT X = Wb fe S (fun r S1 => Ob (r.bl S1) fun b => QT b S1) X := by
  unfold fTest; rw [wb_bind]; refine wb_ext fun r S1 => ?_
  unfold Wb; cases e : r.bl S1 <;> simp [e]
@[simp] theorem wb_tru : Wb (fTru fe) S QT X = Wb fe S (fun r S1 => Ob (r.tru S1) fun b => QT b S1) X := by
  unfold fTru; rw [wb_bind]; refine wb_ext fun r S1 => ?_
  unfold Wb; cases e : r.tru S1 <;> simp [e]
noncomputable def br (b : Bool) (p q : Prop) (_ : BrDep p q := .mk) : Prop := if b = true then p else q
@[simp] theorem br_t {p q : Prop} : br true p q = p := if_pos rfl
@[simp] theorem br_f {p q : Prop} : br false p q = q := if_neg (by decide)
@[simp] theorem br_dec {c : Prop} [Decidable c] {p q : Prop} : br (decide c) p q = ((c → p) ∧ (¬c → q)) := by
  by_cases h : c <;> simp [h]
@[simp] theorem br_not {b : Bool} {p q : Prop} : br (!b) p q = br b q p := by cases b <;> simp
@[simp] theorem wb_and : Wb (fAnd ft fu) S QT X = Wb ft S (fun b S1 => br b (Wb fu S1 QT X) (QT false S1)) X := by
  unfold fAnd; rw [wb_bind]; refine wb_ext fun b S1 => ?_; cases b <;> simp
@[simp] theorem wb_or : Wb (fOr ft fu) S QT X = Wb ft S (fun b S1 => br b (QT true S1) (Wb fu S1 QT X)) X := by
  unfold fOr; rw [wb_bind]; refine wb_ext fun b S1 => ?_; cases b <;> simp
@[simp] theorem wb_not : Wb (fNot ft) S QT X = Wb ft S (fun b S1 => QT (!b) S1) X := by unfold fNot; rw [wb_bind]; refine wb_ext fun b S1 => ?_; simp
@[simp] theorem wb_ifE : Wb (fIfE ft fa fb) S Q X = Wb ft S (fun b S1 => br b (Wb fa S1 Q X) (Wb fb S1 Q X)) X := by
  unfold fIfE; rw [wb_bind]; refine wb_ext fun b S1 => ?_; cases b <;> simp
@[simp] theorem wb_orV : Wb (fOrV fa fb) S Q X = Wb fa S (fun r S1 => Ob (r.tru S1) fun b => br b (Q r S1) (Wb fb S1 Q X)) X := by
  unfold fOrV; rw [wb_bind]; refine wb_ext fun r S1 => ?_
  unfold Wb; cases e : r.tru S1 with
  | none => simp [e]
  | some b => cases b <;> simp [e]
@[simp] theorem wb_andV : Wb (fAndV fa fb) S Q X = Wb fa S (fun r S1 => Ob (r.tru S1) fun b => br b (Wb fb S1 Q X) (Q r S1)) X := by
  unfold fAndV; rw [wb_bind]; refine wb_ext fun r S1 => ?_
  unfold Wb; cases e : r.tru S1 with
  | none => simp [e]
  | some b => cases b <;> simp [e]
@[simp] theorem wb_notV : Wb (fNotV fa) S Q X = Wb fa S (fun r S1 => Ob (r.tru S1) fun b => Q (.b (!b)) S1) X := by
  unfold fNotV; rw [wb_bind]; refine wb_ext fun r S1 => ?_
  unfold Wb; cases e : r.tru S1 <;> simp [e]
@[simp] theorem wb_nil : Wb fNil S QA X = QA [] S := by unfold Wb fNil; simp
@[simp] theorem wb_cons {fA : FA} : Wb (fCons fe fA) S QA X = Wb fe S (fun r S1 => Wb fA S1 (fun rs S2 => QA (r :: rs) S2) X) X := by
  unfold fCons; rw [wb_bind]; refine wb_ext fun r S1 => ?_; rw [wb_bind]; refine wb_ext fun rs S2 => ?_; rw [wb_ret]
@[simp] theorem wb_tup : Wb (fTup fA) S Q X = Wb fA S (fun rs S1 => rs.length ≤ 1000 ∧ Gb (escs rs S1) fun ds S2 => Q (.d (.tup ds)) S2) X := by
  unfold fTup; rw [wb_bind]; refine wb_ext fun rs S1 => ?_
  unfold Wb
  by_cases h : rs.length ≤ 1000
  · cases e : escs rs S1 <;> simp [h, e]
  · simp [h]
@[simp] theorem wb_lst : Wb (fLst fA) S Q X = Wb fA S (fun rs S1 => rs.length ≤ 1000 ∧ Gb (kids rs S1) fun xs S2 => Q (.val (.own xs)) S2) X := by
  unfold fLst; rw [wb_bind]; refine wb_ext fun rs S1 => ?_
  unfold Wb
  by_cases h : rs.length ≤ 1000
  · cases e : kids rs S1 <;> simp [h, e]
  · simp [h]
@[simp] theorem wb_frz : Wb (fFrz fe) S Q X = Wb fe S (fun r S1 => Gb (r.esc S1) fun d S2 => Q (.d d) S2) X := by
  unfold fFrz; rw [wb_bind]; refine wb_ext fun r S1 => ?_
  unfold Wb; cases e : r.esc S1 <;> simp [e]
@[simp] theorem wb_neg : Wb (fNeg fe) S Q X = Wb fe S (fun r S1 => Ob (r.peek S1) fun d => Ob (negD d) fun z => Q (.d z) S1) X := by
  unfold fNeg; rw [wb_bind]; refine wb_ext fun r S1 => ?_
  unfold Wb; cases e : r.peek S1 with
  | none => simp [e]
  | some d => cases e2 : negD d <;> simp [e, e2]
@[simp] theorem wb_go {F : FnS} {dfl : List SV} : Wb (fGo F dfl fA) S Q X = Wb fA S (fun rs S1 => Gb (argsOf rs S1) fun as S2 => Wf F (as ++ dfl) S2.μ (fun x μ' => Q (.val x) ⟨S2.ρ, μ'⟩) (fun e μ' => X e ⟨S2.ρ, μ'⟩)) X := by
  unfold fGo; rw [wb_bind]; refine wb_ext fun rs S1 => ?_
  unfold Wb Wf
  cases e : argsOf rs S1 with
  | none => simp [e]
  | some z =>
    obtain ⟨as, S2⟩ := z
    simp only [e, gb_some]
    cases e2 : F (as ++ dfl) S2.μ with
    | none => simp
    | some r => cases r <;> simp
@[simp] theorem wb_m1 {g : G2} : Wb (fM1 g fo fe) S Q X = Wb fo S (fun ro S1 => ((ro.peek S1).map isStr) = some true ∧ Wb fe S1 (fun re S2 => Gb (g ro re S2) Q) X) X := by
  unfold fM1; rw [wb_bind]; refine wb_ext fun ro S1 => ?_
  by_cases h : ((ro.peek S1).map isStr) = some true
  · simp only [h, if_true, true_and]
    have e : Wb (fun S => if True then bindE fe (fun re S2 => (g ro re S2).map fun z => Out.ok z.1 z.2) S1 else none) S1 Q X = Wb (bindE fe (fun re S2 => (g ro re S2).map fun z => Out.ok z.1 z.2)) S1 Q X := by unfold Wb; simp
    have e2 : Wb (fun S1 => if ((ro.peek S1).map isStr) = some true then bindE fe (fun re S2 => (g ro re S2).map fun z => Out.ok z.1 z.2) S1 else none) S1 Q X = Wb (bindE fe (fun re S2 => (g ro re S2).map fun z => Out.ok z.1 z.2)) S1 Q X := by unfold Wb; simp [h]
    rw [e2, wb_bind]; refine wb_ext fun re S2 => ?_; exact wb_of (h := fun S => g ro re S)
  · unfold Wb; simp [h]
noncomputable def itsD : D → Option (List D)
  | .lst ds => some ds
  | .tup ds => some ds
  | .kt ds => some ds
  | .str x => some (signs x)
  | .wK ks _ => some (ks.map keyD)
  | .wT ks _ => some (ks.map fun k => .tup (k.map keyD))
  | _ => none
@[simp] theorem itsD_wK {ks : List Key} {ds : List D} : itsD (.wK ks ds) = some (ks.map keyD) := rfl
@[simp] theorem itsD_wT {ks : List (List Key)} {ds : List D} : itsD (.wT ks ds) = some (ks.map fun k => .tup (k.map keyD)) := rfl
@[simp] theorem itsD_l {ds : List D} : itsD (.lst ds) = some ds := rfl
@[simp] theorem itsD_t {ds : List D} : itsD (.tup ds) = some ds := rfl
@[simp] theorem itsD_kt {ds : List D} : itsD (.kt ds) = some ds := rfl
@[simp] theorem itsD_s {x : Str} : itsD (.str x) = some (signs x) := rfl
@[simp] theorem wb_items : Wb (fItems fe) S QI X = Wb fe S (fun r S1 => Gb (r.esc S1) fun d S2 => Ob (itsD d) fun ds => QI ds S2) X := by
  unfold fItems; rw [wb_bind]; refine wb_ext fun r S1 => ?_
  unfold Wb
  cases e : r.esc S1 with
  | none => simp [e]
  | some z => obtain ⟨d, S2⟩ := z; cases d <;> simp [e, itsD]
@[simp] theorem wb_range {g : List D → Option (List D)} : Wb (fRange g fA) S QI X = Wb fA S (fun rs S1 => Ob (peeksR rs S1) fun ds => Ob (g ds) fun is => QI is S1) X := by
  unfold fRange; rw [wb_bind]; refine wb_ext fun r S1 => ?_
  unfold Wb
  cases e : peeksR r S1 with
  | none => simp [e]
  | some ds => cases e2 : g ds <;> simp [e, e2]
noncomputable def fCompTail (tg : Tg) (ft : FT) (fe : FE) (vs : List Nat) (ds : List D) (S : Sto) (Q : R → Sto → Prop) : Prop := Gb (compF tg ft fe vs ds [] (S.wipe vs)) fun acc S1 => Q (.val (.own acc)) S1
@[simp] theorem wb_comp {tg : Tg} {fi : FI} {vs : List Nat} : Wb (fComp tg fi ft fe vs) S Q X = Wb fi S (fun ds S1 => fCompTail tg ft fe vs ds S1 Q) X := by
  unfold fComp fCompTail; rw [wb_bind]; refine wb_ext fun ds S1 => ?_
  unfold Wb
  cases e : compF tg ft fe vs ds [] (S1.wipe vs) with
  | none => simp [e]
  | some z => obtain ⟨acc, S2⟩ := z; simp [e]
@[simp] theorem wb_sl {lo hi : Option FE} : Wb (fSl fa lo hi) S Q X = Wb fa S (fun ra S1 => Wb (fPart lo) S1 (fun l S2 => Wb (fPart hi) S2 (fun h S3 => Gb (gSl ra l h S3) Q) X) X) X := by
  unfold fSl; rw [wb_bind]; refine wb_ext fun ra S1 => ?_; rw [wb_bind]; refine wb_ext fun l S2 => ?_; rw [wb_bind]; refine wb_ext fun h S3 => ?_; exact wb_of (h := fun S => gSl ra l h S)
@[simp] theorem wb_part0 {Q : Option Int → Sto → Prop} : Wb (fPart none) S Q X = Q none S := by unfold Wb fPart; simp
@[simp] theorem wb_part1 {Q : Option Int → Sto → Prop} : Wb (fPart (some fe)) S Q X = Wb fe S (fun r S1 => Ob (r.peek S1) fun d => Ob (intOf d) fun i => Q (some i) S1) X := by
  unfold fPart; rw [wb_bind]; refine wb_ext fun r S1 => ?_
  unfold Wb
  cases e : r.peek S1 with
  | none => simp [e]
  | some d => cases e2 : intOf d <;> simp [e, e2]
@[simp] theorem wb_yes : Wb fYes S QT X = QT true S := by unfold fYes; simp
@[simp] theorem wb_pairs0 {Q : List (Key × R) → Sto → Prop} : Wb (fPairs []) S Q X = Q [] S := (show Wb (retE []) S Q X = _ from wb_ret)
@[simp] theorem wb_pairs {fk fv : FE} {r : List (FE × FE)} {Q : List (Key × R) → Sto → Prop} : Wb (fPairs ((fk, fv) :: r)) S Q X = Wb fk S (fun rk S1 => Ob (rk.peek S1) fun d => Ob (d.key) fun k => Wb fv S1 (fun rv S2 => Wb (fPairs r) S2 (fun ps S3 => Q ((k, rv) :: ps) S3) X) X) X := by
  refine Eq.trans (b := Wb (bindE fk fun rk S1 => match (rk.peek S1).bind D.key with | some k => bindE fv (fun rv => bindE (fPairs r) fun ps => retE ((k, rv) :: ps)) S1 | none => none) S Q X) rfl ?_
  rw [wb_bind]; refine wb_ext fun rk S1 => ?_
  cases e : rk.peek S1 with
  | none => unfold Wb; simp [e]
  | some d =>
    cases e2 : d.key with
    | none => unfold Wb; simp [e, e2]
    | some k =>
      have e3 : Wb (fun S1 => match (rk.peek S1).bind D.key with
        | some k => bindE fv (fun rv => bindE (fPairs r) fun ps => retE ((k, rv) :: ps)) S1
        | none => none) S1 Q X = Wb (bindE fv (fun rv => bindE (fPairs r) fun ps => retE ((k, rv) :: ps))) S1 Q X := by unfold Wb; simp [e, e2]
      refine e3.trans ?_; simp only [e2, ob_some]; rw [wb_bind]; refine wb_ext fun rv S2 => ?_; rw [wb_bind]; refine wb_ext fun ps S3 => ?_; rw [wb_ret]
@[simp] theorem wb_disp {fps : List (FE × FE)} : Wb (fDisp fps) S Q X = Wb (fPairs fps) S (fun kr S1 => ((kr.map (·.1)).Nodup ∧ kr.length ≤ 15) ∧ Gb (kids (kr.map (·.2)) S1) fun xs S2 => Q (.val (.node (.dK (kr.map (·.1))) xs)) S2) X := by
  unfold fDisp; rw [wb_bind]; refine wb_ext fun kr S1 => ?_
  unfold Wb
  by_cases h : (kr.map (·.1)).Nodup ∧ kr.length ≤ 15
  · cases e : kids (kr.map (·.2)) S1 <;> simp [h, e]
  · simp [h]
@[simp] theorem wb_dnew {n : Nd} : Wb (fDNew n) S Q X = Q (.val (.node n [])) S := by unfold Wb fDNew; simp
noncomputable def sq (g : FS) (P : SO → Prop) (o : SO) : Prop := match o with
  | .nx S => Ws g S P
  | o => P o
@[simp] theorem sq_nx : sq g P (.nx S) = Ws g S P := rfl
@[simp] theorem sq_rt {x : SV} : sq g P (.rt x μ) = P (.rt x μ) := rfl
@[simp] theorem sq_bk : sq g P (.bk S) = P (.bk S) := rfl
@[simp] theorem sq_ct : sq g P (.ct S) = P (.ct S) := rfl
@[simp] theorem sq_exc {e : Ex} : sq g P (.exc e S) = P (.exc e S) := rfl
@[simp] theorem ws_seq : Ws (fSeq f g) S P = Ws f S (sq g P) := by
  unfold Ws fSeq
  cases e : f S with
  | none => simp
  | some o => cases o <;> simp [sq, Ws]
theorem ws_bind {α : Type} {f : Sto → Option (Out α)} {k : α → FS} : Ws (bindS f k) S P = Wb f S (fun a S1 => Ws (k a) S1 P) (fun e S1 => P (.exc e S1)) := by
  unfold Ws bindS Wb
  cases e : f S with
  | none => simp
  | some o => cases o <;> simp
@[simp] theorem ws_next : Ws fNext S P = P (.nx S) := by unfold Ws fNext; simp
@[simp] theorem ws_brk : Ws fBrk S P = P (.bk S) := by unfold Ws fBrk; simp
@[simp] theorem ws_cont : Ws fCont S P = P (.ct S) := by unfold Ws fCont; simp
@[simp] theorem ws_expr : Ws (fExpr fe) S P = Wb fe S (fun _ S1 => P (.nx S1)) (fun e S1 => P (.exc e S1)) := by
  unfold fExpr; rw [ws_bind]; refine wb_ext fun r S1 => ?_; unfold Ws; simp
@[simp] theorem ws_ret : Ws (fRet fe) S P = Wb fe S (fun r S1 => Ob (r.sv S1) fun x => P (.rt x S1.μ)) (fun e S1 => P (.exc e S1)) := by
  unfold fRet; rw [ws_bind]; refine wb_ext fun r S1 => ?_; unfold Ws; cases e : r.sv S1 <;> simp [e]
@[simp] theorem ws_retN : Ws fRetN S P = P (.rt (.dat .non) S.μ) := by unfold Ws fRetN; simp
@[simp] theorem ws_if : Ws (fIf ft f g) S P = Wb ft S (fun b S1 => br b (Ws f S1 P) (Ws g S1 P)) (fun e S1 => P (.exc e S1)) := by
  unfold fIf; rw [ws_bind]; refine wb_ext fun b S1 => ?_; cases b <;> simp
@[simp] theorem ws_set : Ws (fSet i fe) S P = Wb fe S (fun r S1 => Gb (r.kid S1) fun x S2 => Ob (S2.put i x) fun S3 => P (.nx S3)) (fun e S1 => P (.exc e S1)) := by
  unfold fSet; rw [ws_bind]; refine wb_ext fun r S1 => ?_; unfold Ws
  cases e : r.kid S1 with
  | none => simp [e]
  | some z => obtain ⟨x, S2⟩ := z; cases e2 : S2.put i x <;> simp [e, e2]
@[simp] theorem ws_asg {tg : Tg} : Ws (fAsg tg fe) S P = Wb fe S (fun r S1 => Gb (r.esc S1) fun d S2 => Ob (tgS tg d S2.ρ) fun ρ => P (.nx ⟨ρ, S2.μ⟩)) (fun e S1 => P (.exc e S1)) := by
  unfold fAsg; rw [ws_bind]; refine wb_ext fun r S1 => ?_; unfold Ws
  cases e : r.esc S1 with
  | none => simp [e]
  | some z => obtain ⟨x, S2⟩ := z; cases e2 : tgS tg x S2.ρ <;> simp [e, e2]
@[simp] theorem ws_par {is : List Nat} : Ws (fPar is fA) S P = Wb fA S (fun rs S1 => Gb (kids rs S1) fun xs S2 => Ob (putAll is xs S2) fun S3 => P (.nx S3)) (fun e S1 => P (.exc e S1)) := by
  unfold fPar; rw [ws_bind]; refine wb_ext fun r S1 => ?_; unfold Ws
  cases e : kids r S1 with
  | none => simp [e]
  | some z => obtain ⟨x, S2⟩ := z; cases e2 : putAll is x S2 <;> simp [e, e2]
@[simp] theorem ws_for {tg : Tg} {fI : FI} : Ws (fFor tg fI f) S P = Wb fI S (fun ds S1 => Ws (forF tg f ds) S1 P) (fun e S1 => P (.exc e S1)) := by
  unfold fFor; rw [ws_bind]
@[simp] theorem ws_app : Ws (fAppend fo fe) S P = Wb fo S (fun ro S1 => Ob (ro.sv S1) fun x => match x with
    | .node .lst _ => Wb fe S1 (fun re S2 => Gb (re.kid S2) fun x S3 => Ob (pushAt ro x S3) fun S4 => P (.nx S4)) (fun e S1 => P (.exc e S1))
    | _ => False) (fun e S1 => P (.exc e S1)) := by
  unfold fAppend; rw [ws_bind]; refine wb_ext fun ro S1 => ?_
  cases ex : ro.sv S1 with
  | none => unfold Ws; simp [ex]
  | some x =>
    cases x with
    | dat d => unfold Ws; simp [ex]
    | cell c => unfold Ws; simp [ex]
    | node n xs =>
      cases n with
      | lst =>
        simp only [ob_some]
        have e : Ws (fun S1 => match ro.sv S1 with
          | some (.node .lst _) => bindS fe (fun re S2 => match re.kid S2 with
            | some (x, S3) => (pushAt ro x S3).map SO.nx
            | none => none) S1
          | _ => none) S1 P = Ws (bindS fe (fun re S2 => match re.kid S2 with
            | some (x, S3) => (pushAt ro x S3).map SO.nx
            | none => none)) S1 P := by unfold Ws; simp [ex]
        refine e.trans ?_; rw [ws_bind]; refine wb_ext fun re S2 => ?_; unfold Ws
        cases ek : re.kid S2 with
        | none => simp [ek]
        | some z => obtain ⟨x, S3⟩ := z; cases e2 : pushAt ro x S3 <;> simp [ek, e2]
      | _ => unfold Ws; simp [ex]
@[simp] theorem ws_store : Ws (fStore fo fi fe) S P = Wb fe S (fun re S1 => Wb fo S1 (fun ro S2 => Wb fi S2 (fun ri S3 => Gb (re.kid S3) fun x S4 => Ob (ri.peek S4) fun k => Ob (storeAt ro k x S4) fun S5 => P (.nx S5)) (fun e S1 => P (.exc e S1))) (fun e S1 => P (.exc e S1))) (fun e S1 => P (.exc e S1)) := by
  unfold fStore; rw [ws_bind]; refine wb_ext fun re S1 => ?_; rw [ws_bind]; refine wb_ext fun ro S2 => ?_; rw [ws_bind]; refine wb_ext fun ri S3 => ?_; unfold Ws
  cases ek : re.kid S3 with
  | none => simp [ek]
  | some z =>
    obtain ⟨x, S4⟩ := z
    cases e1 : ri.peek S4 with
    | none => simp [ek, e1]
    | some k => cases e2 : storeAt ro k x S4 <;> simp [ek, e1, e2]
@[simp] theorem ws_aug {g : G2} : Ws (fAug i g fe) ⟨ρ, μ⟩ P = Ob (ρ[i]?) fun o => Ob o fun _ => Wb fe ⟨ρ, μ⟩ (fun re S1 => Gb (g (.bor i []) re S1) fun rz S2 => Gb (rz.kid S2) fun x S3 => Ob (S3.put i x) fun S4 => P (.nx S4)) (fun e S1 => P (.exc e S1)) := by
  cases e0 : ρ[i]? with
  | none => unfold Ws fAug; simp [e0]
  | some o =>
    cases o with
    | none => unfold Ws fAug; simp [e0]
    | some x0 =>
      have e : Ws (fAug i g fe) ⟨ρ, μ⟩ P = Ws (bindS fe (fun re S1 => match g (.bor i []) re S1 with
        | some (rz, S2) => match rz.kid S2 with
          | some (x, S3) => (S3.put i x).map SO.nx
          | none => none
        | none => none)) ⟨ρ, μ⟩ P := by unfold Ws fAug; simp only [e0] <;> rfl
      rw [e, ws_bind]
      simp only [ob_some]
      refine wb_ext fun re S1 => ?_; unfold Ws
      cases e1 : g (.bor i []) re S1 with
      | none => simp [e1]
      | some z =>
        obtain ⟨rz, S2⟩ := z
        cases e2 : rz.kid S2 with
        | none => simp [e1, e2]
        | some w => obtain ⟨x, S3⟩ := w; cases e3 : S3.put i x <;> simp [e1, e2, e3]
noncomputable def Sto.newCell (S : Sto) (i : Nat) (r : R) : Option Sto := match r with
  | .val (.node n xs) => ({ S with μ := S.μ ++ [.node n xs] } : Sto).put i (.cell S.μ.length)
  | _ => none
@[simp] theorem newCell_eq {n : Nd} {xs : List SV} : Sto.newCell ⟨ρ, μ⟩ i (.val (.node n xs)) = Sto.put ⟨ρ, μ ++ [.node n xs]⟩ i (.cell μ.length) := rfl
@[simp] theorem ws_setC : Ws (fSetC i fe) S P = Wb fe S (fun r S1 => Ob (S1.newCell i r) fun S2 => P (.nx S2)) (fun e S1 => P (.exc e S1)) := by
  unfold fSetC; rw [ws_bind]; refine wb_ext fun r S1 => ?_; unfold Ws Sto.newCell
  split
  · rename_i n xs
    cases e : ({ S1 with μ := S1.μ ++ [.node n xs] } : Sto).put i (.cell S1.μ.length) <;> simp [e]
  · simp
noncomputable def retP (Q : SV → List SV → Prop) (X : Ex → List SV → Prop) : SO → Prop
  | .nx S => Q (.dat .non) S.μ
  | .rt x μ => Q x μ
  | .exc e S => X e S.μ
  | _ => False
section
variable {QF : SV → List SV → Prop} {XF : Ex → List SV → Prop}
@[simp] theorem retP_nx : retP QF XF (.nx S) = QF (.dat .non) S.μ := rfl
@[simp] theorem retP_rt {x : SV} : retP QF XF (.rt x μ) = QF x μ := rfl
@[simp] theorem retP_exc {e : Ex} : retP QF XF (.exc e S) = XF e S.μ := rfl
@[simp] theorem retP_bk : retP QF XF (.bk S) = False := rfl
@[simp] theorem retP_ct : retP QF XF (.ct S) = False := rfl
theorem wf_run {n m : Nat} {as : List SV} : Wf (runF n m f) as μ QF XF = (as.length = n ∧ Ws f ⟨as.map some ++ List.replicate (m - n) none, μ⟩ (retP QF XF)) := by
  unfold Wf runF Ws
  by_cases h : as.length = n
  · rw [if_pos h]
    cases e : f ⟨as.map some ++ List.replicate (m - n) none, μ⟩ with
    | none => simp
    | some o => cases o <;> simp [h, retP]
  · simp [h]
end
theorem forF_ind {tg : Tg} {ds : List D} (I : Nat → Sto → Prop) (h0 : I 0 S) (step : ∀ i d S, ds[i]? = some d → I i S → Ob (tgS tg d S.ρ) fun ρ => Ws f ⟨ρ, S.μ⟩ fun o => match o with
    | .nx S1 => I (i + 1) S1
    | .ct S1 => I (i + 1) S1
    | .bk S1 => P (.nx S1)
    | o => P o) (hend : ∀ S, I ds.length S → P (.nx S)) : Ws (forF tg f ds) S P := by
  induction ds generalizing S I with
  | nil => exact ⟨_, rfl, hend S h0⟩
  | cons d ds ih =>
    obtain ⟨ρ, e1, o, e2, q⟩ := step 0 d S rfl h0
    have e2 : f { S with ρ := ρ } = some o := e2
    have go : ∀ S1, I 1 S1 → Ws (forF tg f ds) S1 P := fun S1 h1 => ih (fun i => I (i + 1)) h1 (fun i d S hd hI => step (i + 1) d S (by simpa using hd) hI) (fun S h => hend S h)
    cases o with
    | nx S1 =>
      obtain ⟨o, eo, po⟩ := go S1 q
      exact ⟨o, by unfold forF; simp only [e1, e2]; exact eo, po⟩
    | ct S1 =>
      obtain ⟨o, eo, po⟩ := go S1 q
      exact ⟨o, by unfold forF; simp only [e1, e2]; exact eo, po⟩
    | bk S1 => exact ⟨_, by unfold forF; simp only [e1, e2], q⟩
    | rt x μ => exact ⟨_, by unfold forF; simp only [e1, e2], q⟩
    | exc e S1 => exact ⟨_, by unfold forF; simp only [e1, e2], q⟩
theorem compF_ind {tg : Tg} {vs : List Nat} {ds : List D} {acc : List SV} {Pc : List SV → Sto → Prop} (I : Nat → List SV → Sto → Prop) (h0 : I 0 acc S) (step : ∀ i d acc S, ds[i]? = some d → I i acc S → Ob (tgS tg d S.ρ) fun ρ => Wb ft ⟨ρ, S.μ⟩ (fun b S1 => br b
    (Wb fe S1 (fun y S2 => Gb (y.kid S2) fun x S3 => acc.length < 1000000 ∧ I (i + 1) (acc ++ [x]) (S3.wipe vs)) (fun _ _ => False)) (I (i + 1) acc (S1.wipe vs))) (fun _ _ => False)) (hend : ∀ acc S, I ds.length acc S → Pc acc S) : Gb (compF tg ft fe vs ds acc S) Pc := by
  induction ds generalizing S I acc with
  | nil => exact ⟨_, _, rfl, hend acc S h0⟩
  | cons d ds ih =>
    obtain ⟨ρ, e1, o, e2, q⟩ := step 0 d acc S rfl h0
    have e2 : ft { S with ρ := ρ } = some o := e2
    have go : ∀ acc S1, I 1 acc S1 → Gb (compF tg ft fe vs ds acc S1) Pc := fun acc S1 h1 => ih (fun i => I (i + 1)) h1 (fun i d acc S hd hI => step (i + 1) d acc S (by simpa using hd) hI) (fun acc S h => hend acc S h)
    cases o with
    | exc e S1 => exact q.elim
    | ok b S1 =>
      cases b with
      | false =>
        simp only [br_f] at q
        obtain ⟨a, S', eo, po⟩ := go acc _ q
        exact ⟨a, S', by unfold compF; simp only [e1, e2]; exact eo, po⟩
      | true =>
        simp only [br_t] at q
        obtain ⟨o, e3, q⟩ := q
        cases o with
        | exc e S1 => exact q.elim
        | ok y S2 =>
          obtain ⟨x, S3, e4, hl, q⟩ := q
          obtain ⟨a, S', eo, po⟩ := go _ _ q
          exact ⟨a, S', by unfold compF; simp only [e1, e2, e3, e4, if_pos hl]; exact eo, po⟩
end
end L3
namespace L3
open PySem PySem.Spec PyProof.Rows L2
noncomputable def fStuck : FS := fun _ => none
noncomputable def xStuck : FE := fun _ => none
section
variable {X : Cx} {W : WX}
noncomputable def fTry (f : FS) : FS := fun S => match f S with
  | some (.exc _ _) => none
  | o => o
end
section
variable {f : FS} {S : Sto} {P : SO → Prop}
@[simp] theorem ws_stuck : Ws fStuck S P = False := by unfold Ws fStuck; simp
@[simp] theorem ws_try : Ws (fTry f) S P = Ws f S fun o => match o with
    | .exc _ _ => False
    | o => P o := by
  unfold Ws fTry
  cases f S with
  | none => simp
  | some o => cases o <;> simp
end
end L3
namespace L3
open PySem PySem.Spec PyProof.Rows L2
noncomputable def pyT (d : D) : PyData := (d.py).getD .none
noncomputable def sortD (ds : List D) : List D := ds.mergeSort (PySem.W.dataLe false pyT)
noncomputable def tupNE : PyData → Bool
  | .tuple (_ :: _) => true
  | _ => false
noncomputable def flatP : PyData → Bool
  | .none => false
  | .tuple _ => false
  | _ => true
noncomputable def canSort (ds : List D) : Bool := decide (ds.length ≤ 4000) && ds.all (fun d => d.py.isSome && decide ((pyT d).depth ≤ 60)) && ds.all (fun d => ds.all fun e => PySem.W.alike (pyT d) (pyT e)) && (ds.all (fun d => tupNE (pyT d)) || ds.all fun d => flatP (pyT d))
section
variable {X : Cx}
end
section
variable {X : Cx} {W : WX} {e : Expr} {es : List Expr} {p pos : Pos} {t : TA} {fA : FA}
end
end L3
namespace L3
open PySem PySem.Spec PyProof.Rows L2
noncomputable def fChn (g g' : G2) (fa fb fc : FE) : FE := bindE fa fun ra => bindE fb fun rb S1 => match rb.peek S1, g ra rb S1 with
  | some d, some (rz, S2) => if d.sc = true then match rz.bl S2 with
      | some true => bindE fc (fun rc S3 => (g' (.d d) rc S3).map fun z => .ok z.1 z.2) S2
      | some false => some (.ok (.b false) S2)
      | none => none
    else none
  | _, _ => none
section
variable {X : Cx} {W : WX} {a b c : Expr} {ta tb tc : TE} {fa fb fc : FE} {pos : Pos} {op op' : CmpOp} {r r' : R2} {g g' : G2}
theorem ev_chn {K : PySem.W.Frag} (hg : OpG K r g) (hg' : OpG K r' g') (ha : EV K W ta fa) (hb : EV K W tb fb) (hc : EV K W tc fc) : EV K W (tChain r r' ta tb tc) (fChn g g' fa fb fc) := fun S σ H Φ A F G st out h Q q => by
  refine run2 ha hb st h q.x fun ra rb S1 x y H1 Φ1 A1 T U F1 G1 sp st1 rx ry nd fz h1 => ?_
  cases ep : rb.peek S1 with
  | none => rw [ep] at h1; cases h1
  | some d =>
    cases eg : g ra rb S1 with
    | none => rw [ep, eg] at h1; cases h1
    | some z =>
      obtain ⟨rz, S2⟩ := z
      rw [ep, eg] at h1
      dsimp only at h1
      by_cases hs : d.sc = true
      · rw [if_pos hs] at h1
        have ryd := ry.rp st1 ep
        refine hg S1 σ H1 Φ1 A1 F1 G1 x y ra rb T U st1 rx ry nd rz S2 eg _ fun v H' Φ' A' V F' G' s2 st2 rv nd2 f2 => ?_
        have s01 : Step F G H Φ A (V ++ F') G' H' Φ' A' := Step.trans (T := []) (T1 := V) (F1 := T ++ (U ++ F1)) sp s2
        have s02 : Step F G H Φ A F' G' H' Φ' A' := s01.drop
        cases ebl : rz.bl S2 with
        | none => rw [ebl] at h1; cases h1
        | some k =>
          rw [ebl] at h1
          refine ⟨k, RV.bl st2 rv ebl, ?_⟩
          cases k with
          | false =>
            rw [if_neg (by decide)]
            cases h1
            exact q (.bl false) H' Φ' A' [] F' G' s02 st2 (RS.dat (.bl _)) (by simpa using st2.nd) (fz.trans f2)
          | true =>
            rw [if_pos rfl]
            refine run1 hc st2 h1 (fun e S' eo => (q.x e S' eo).at s01 (fz.trans f2)) fun rc S3 w H3 Φ3 A3 T3 F3 G3 sp3 st3 rv3 nd3 fz3 h3 => ?_
            cases eg' : g' (.d d) rc S3 with
            | none => rw [eg'] at h3; cases h3
            | some z2 =>
              obtain ⟨rz2, S4⟩ := z2
              rw [eg'] at h3; cases h3
              refine hg' S3 σ H3 Φ3 A3 F3 G3 y w (.d d) rc [] T3 st3 (RS.dat (sc_rp ryd hs)) rv3 (by simpa using nd3) rz2 S4 eg' Q fun u H4 Φ4 A4 V4 F4 G4 s4 st4 rv4 nd4 f4 => ?_
              have s03 : Step F G H Φ A (T3 ++ F3) G3 H3 Φ3 A3 := Step.trans (T := []) (T1 := T3) s02 sp3
              exact q u H4 Φ4 A4 V4 F4 G4 (Step.trans (T := []) (T1 := V4) (F1 := T3 ++ F3) s03 (by simpa using s4)) st4 rv4 nd4 (((fz.trans f2).trans fz3).trans f4)
      · rw [if_neg hs] at h1; cases h1
theorem de_chn (ho : OpR X (compareOp op) r) (hg : OpG X.K r g) (ho' : OpR X (compareOp op') r') (hg' : OpG X.K r' g') (ha : DE X W a ta fa) (hb : DE X W b tb fb) (hc : DE X W c tc fc) (hm : lastMarks [op, op'] [b, c] = false := by with_unfolding_all rfl) :
    DE X W (.Compare a [op, op'] [b, c] pos) (tChain r r' ta tb tc) (fChn g g' fa fb fc) := ⟨pe_chain ho ho' ha.pe hb.pe hc.pe hm, ev_chn hg hg' ha.ev hb.ev hc.ev⟩
theorem dt_chn (ho : OpR X (compareOp op) r) (hg : OpG X.K r g) (ho' : OpR X (compareOp op') r') (hg' : OpG X.K r' g') (ha : DE X W a ta fa) (hb : DE X W b tb fb) (hc : DE X W c tc fc) (hm : lastMarks [op, op'] [b, c] = false := by with_unfolding_all rfl) :
    DT X W (.Compare a [op, op'] [b, c] pos) (tTest (tChain r r' ta tb tc)) (fTest (fChn g g' fa fb fc)) := ⟨pt_chain ho ho' ha.pe hb.pe hc.pe hm, ev_test (ev_chn hg hg' ha.ev hb.ev hc.ev)⟩
end
end L3
namespace L3
open PySem PySem.Spec PyProof.Rows L2
noncomputable def popC (c : Nat) (j : List SV → Option Nat) (S : Sto) : Option (D × Sto) := match S.μ[c]? with
  | some (.node .lst xs) => (j xs).bind fun k => match xs[k]? with
    | some (.dat d) => some (d, S.cellp c (.node .lst (xs.eraseIdx k)))
    | _ => none
  | _ => none
section
variable {K : PySem.W.Frag} {W : WX} {S S' : Sto} {σ : Sl} {H Φ : Hp} {A F G T : List Addr} {v : V}
end
noncomputable def lastI (xs : List SV) : Option Nat := if xs.length = 0 then none else some (xs.length - 1)
noncomputable def fPop (fo : FE) : FE := bindE fo fun ro S1 => match ro.sv S1 with
  | some (.cell c) => (popC c lastI S1).map fun z => .ok (.d z.1) z.2
  | _ => none
noncomputable def isLC (c : Nat) (S : Sto) : Bool := match S.μ[c]? with
  | some (.node .lst _) => true
  | _ => false
noncomputable def fPopI (fo fi : FE) : FE := bindE fo fun ro S1 => match ro.sv S1 with
  | some (.cell c) => if isLC c S1 = true then bindE fi (fun ri S2 => match ri.peek S2 with
      | some (.int i) => if -(2 ^ 63) ≤ i ∧ i < 2 ^ 63 then (popC c (fun xs => seqIndex? i xs.length) S2).map fun z => .ok (.d z.1) z.2 else none
      | _ => none) S1
    else none
  | _ => none
section
variable {X : Cx} {W : WX} {o e : Expr} {apos cpos : Pos} {to te : TE} {fo fe : FE}
end
section
variable {X : Cx} {W : WX} {e : Expr} {es : List Expr} {p pos : Pos} {t : TA} {fA : FA}
end
end L3
namespace L3
open PySem PySem.Spec PyProof.Rows L2
noncomputable def tkey : D → Option (List Key)
  | .tup ds => keysD ds
  | _ => none
noncomputable def popT (c : Nat) (k : List Key) (S : Sto) : Option (Option D × Sto) := match S.μ[c]? with
  | some (.node (.dT ks) xs) => match idxK k ks with
    | none => some (none, S)
    | some j => match xs[j]? with
      | some (.dat d) => some (some d, S.cellp c (.node (.dT (ks.eraseIdx j)) (xs.eraseIdx j)))
      | _ => none
  | _ => none
noncomputable def isTC (c : Nat) (S : Sto) : Bool := match S.μ[c]? with
  | some (.node (.dT _) _) => true
  | _ => false
noncomputable def fPop2 (fo fe fx : FE) : FE := bindE fo fun ro S1 => match ro.sv S1 with
  | some (.cell c) => if isTC c S1 = true then bindE fe (fun re => bindE fx fun rx S3 => (re.peek S3).bind fun dk => (tkey dk).bind fun k => (popT c k S3).map fun z => .ok (match z.1 with
      | some d => .d d
      | none => rx) z.2) S1
    else none
  | _ => none
section
variable {K : PySem.W.Frag} {W : WX} {S S' : Sto} {σ : Sl} {H Φ : Hp} {A F G T : List Addr} {v : V}
end
section
variable {X : Cx} {W : WX} {o e f : Expr} {apos cpos : Pos} {to te tx : TE} {fo fe fx : FE}
end
section
variable {prog : Program} {w : World} {A : Around} {E : Value → Shared → Prop} {s : Shared}
end
section
variable {X : Cx} {W : WX} {e st : Expr} {te ts : TE} {fe fs : FE} {p3 pos : Pos}
noncomputable def fRevS (fe fs : FE) : FE := bindE fe fun r => bindE fs fun rs S2 => match r.sv S2 with
  | some (.dat (.tup ds)) => match rs.peek S2 with
    | some (.int i) => if i = 1 then some (.ok (.d (.tup ds)) S2) else if i = -1 then some (.ok (.d (.tup ds.reverse)) S2) else none
    | _ => none
  | _ => none
end
end L3
namespace L3
open PySem PySem.Spec PyProof.Rows L2
section
variable {X : Cx} {W : WX} {a b : Expr} {pos : Pos} {ta tb : TE} {fa fb : FE}
end
section
variable {prog : Program} {w : World} {A : Around} {E : Value → Shared → Prop} {s : Shared}
end
noncomputable def gNeE : G2 := fun ra rb S => match ra.sv S, rb.sv S with
  | some (.node (.dT ks) xs), some (.node (.dK []) _) => some (.b (!ks.isEmpty), S)
  | _, _ => none
section
variable {X : Cx} {W : WX} {a b : Expr} {pos : Pos} {ta tb : TE} {fa fb : FE}
end
noncomputable def fFzS (i : Nat) (f : FS) : FS := fun S => match (R.bor i []).esc S with
  | some (_, S1) => f S1
  | none => none
section
variable {X : Cx} {W : WX} {s : Stmt} {t : TS} {f : FS} {i : Nat}
end
end L3
namespace L3
open PySem PySem.Spec PyProof.Rows L2
structure ExN (K : PySem.W.Frag) (C : Addr) : Prop where
  ex : ∃ B newId initId bmB, ExcBaseFacts B newId initId bmB ∧ PySem.W.excIn K C bmB newId = true
  cls : ∃ oc od cd sl, K.lookup C = some ⟨oc, od, .cls cd, sl⟩
  ty : PySem.W.typeIn K (.ref C) = some (.type "type")
  self : PySem.W.mroIn K C (.ref C) = some true
  base : PySem.W.mroIn K C (.type "BaseException") = some true
section
variable {prog : Program} {w : World} {A : Around} {E : Value → Shared → Prop} {s : Shared} {K : PySem.W.Frag} {C : Addr}
theorem issubN {Q : Fin → Shared → Prop} (x : K.In s.heap) (T : ExN K C) (h : Q (.done (.ret (.bool true))) s) :
    wpAny (model prog w) A (Builtin.«issubclass.nested» ⟨[.ref C, .ref C, rawInt 0], []⟩) Q E s := by
  obtain ⟨hh, g, dr, t, os⟩ := s
  dsimp only at x
  obtain ⟨oc, od, cd, sl, hK⟩ := T.cls
  have hC := x _ _ hK
  have L1 := PySem.W.looks_mroIn (M := model prog w) x T.self
  have L2 := PySem.W.looks_typeIn (M := model prog w) x T.ty
  unfold Builtin.«issubclass.nested»
  repeat (first | exact h | exact wpAny_pure h | lk)
theorem issubC {Q : Value → Shared → Prop} (x : K.In s.heap) (T : ExN K C) (h : Q (.bool true) s) : wpAny (model prog w) A (call (.builtin "issubclass") [.ref C, .ref C]) Q E s :=
  call_issubclass (S := fun _ R s => K.In s.heap ∧ R (.ok (.ret (.bool true))) s) (fun _ _ _ _ _ hs => issubclass_outer (issubN hs.1 T hs.2)) ⟨x, h⟩
end
section
variable {X : Cx} {W : WX} {C : Addr} {x : Str} {p pos : Pos}
theorem ps_raiseC (hc : X.calm = true) (tk : L2N.Takes X W) (T : ExN X.K C) (hg : Gl X x) (gC : X.mg x = some (.ref C)) (hdb : (x == ("__debug__" : Str)) = false := by decide) :
    PS X (.Raise (some (.Name x p)) none pos) (fun _ σ H => W (.ref C) none σ H) := by
  refine ⟨fun pins s σ H D I h => ?_⟩
  show wpAny _ _ (do standAt pos; raiseStmt X.env (some (do let v ← eval (.Name x p) X.env; standAt pos; pure v)) none) _ _ _
  refine wpAny_bind (wpAny_standAt ?_)
  unfold raiseStmt
  dsimp only
  refine wpAny_bind (wpAny_bind (ld_glob I hg gC (wpAny_bind (wpAny_standAt (wpAny_pure ?_))) hdb))
  refine wpAny_bind (wpAny_pure ?_)
  dsimp only
  refine wpAny_bind (wpAny_holding ?_)
  obtain ⟨oc, od, cd, sl, hK⟩ := T.cls
  have kin := I.kIn
  have hC0 := kin _ _ hK
  have isT : ∀ {h : Heap} {g : Array GenState} {d : Drawn} {t : Nat} {os : OsState} {Q' : Bool → Shared → Prop} {E' : Value → Shared → Prop}, X.K.In h → Q' true ⟨h, g, d, t, os⟩ → wpAny (model X.prog X.w) X.A (isType (.ref C)) Q' E' ⟨h, g, d, t, os⟩ := by
    intro h g d t os Q' E' k hq
    simp only [isType, loadHead]
    refine wpAny_bind (wpAny_loadPart (k _ _ hK) ?_)
    exact wpAny_pure hq
  obtain ⟨hp, g, d, t, os⟩ := s
  unfold excFromValue isExcClass
  refine wpAny_bind (wpAny_bind (isT kin ?_))
  simp only [if_true]
  refine (PySem.W.looks_mroIn (M := model X.prog X.w) kin T.base).here ?_
  simp only [if_true]
  obtain ⟨B, newId, initId, bmB, F, q⟩ := T.ex
  obtain ⟨bm, N, nm, qn, bs, hdct, sn, sub, ab, col, dd, k0, k1, k2, k3, k5, mN, hC, hN, hni, OT⟩ := exc_obj kin q
  refine wpAny_bind (wpAny_call_exc_subT F OT hC hN hni (fun h' a hm => ?_) (by show 0 ≤ sizeLine; omega))
  have kin' : X.K.In h' := kin.keeps hm.keeps
  obtain ⟨ta, he, _, _⟩ := hm.there
  have LT : PySem.W.Looks (model X.prog X.w) h' (typeOf (.ref a)) (.ref C) := fun A Q E s k q => wpAny_typeOf_ref (k _ _ he) q
  have LI : PySem.W.Looks (model X.prog X.w) h' (isInstance (.ref a) (.type "BaseException")) true := LT.andThen (PySem.W.looks_mroIn kin' T.base)
  refine wpAny_bind (LI.here ?_)
  simp only [Bool.not_true, Bool.false_eq_true, if_false]
  refine wpAny_pure ?_
  refine wpAny_bind (isT kin' ?_)
  simp only [if_true]
  refine wpAny_bind (wpAny_holding ?_)
  unfold raisedFor
  simp only [Bool.false_eq_true, if_false]
  refine wpAny_bind (LT.here ?_)
  refine wpAny_bind (issubC (s := ⟨h', g, d, t, os⟩) kin' T ?_)
  refine wpAny_bind (wpAny_truthy_bool ?_)
  simp only [if_true]
  refine wpAny_pure ?_
  unfold setFlight raiseNew
  refine wpAny_bind (wpAny_bind (wpAny_field (i := 1) (x := Value.none) he rfl rfl ?_))
  rw [if_neg (by decide)]
  refine wpAny_pure (wpAny_bind (wpAny_handled ?_))
  rw [I.ok.hd hc]
  have fin : X.xe (.ref a) ⟨h', g, d, t, os⟩ := tk _ _ (L2N.XE.new (cls := .ref C) (d := none) I hm.keeps hm.new he ⟨rfl, rfl, fun vs e => by cases e; rfl⟩ rfl (by rfl) (I.hok.gone hm.new) rfl I.bare h)
  first
    | exact wpAny_throw fin
    | exact wpAny_bind (wpAny_pure (wpAny_throw fin))
end
end L3
namespace L3
open PySem PySem.Spec PyProof.Rows L2
section
variable {X : Cx} {pins : List (Addr × Obj)} {σ : L2.St} {H : Hp} {s : Shared} {a : Addr} {o : HO}
theorem inv_hold (I : Inv X pins σ H s) (hn : H a = none) (h0 : X.s_0.heap.get? a = none) (hL : a ≠ X.env.locals) (hc : ∀ x c, X.env.cells.lookup x = some c → c ≠ a) (hp : ∀ p ∈ X.pn ++ pins, p.1 ≠ a)
    (new : ObjOk X.prog X.w (upd H a o) s.heap a o) : Inv X pins σ (upd H a o) s := by
  have ne : ∀ b u, H b = some u → b ≠ a := fun b u e z => by rw [z, hn] at e; cases e
  have up : ∀ b u, H b = some u → upd H a o b = some u := fun b u e => by rw [upd_ne (ne b u e)]; exact e
  refine ⟨I.ok, I.os, I.bare, ⟨I.base.keep, I.base.slot, fun b u e n hx => ?_, I.base.there, fun b xs e => up _ _ (I.base.tups b xs e), fun b ob u e => up _ _ (I.base.frzs b ob u e), fun b ps e => ?_⟩, I.loc, I.cell, ?_, fun x c e => ?_, fun p hp2 => ?_, fun b u e => ?_, I.len⟩
  · have : b ≠ a := fun z => by rw [z, h0] at e; cases e
    rw [upd_ne this]; exact I.base.free b u e n hx
  · obtain ⟨m, q⟩ := I.base.tbls b ps e
    exact ⟨m, up _ _ q⟩
  · rw [upd_ne (Ne.symm hL)]; exact I.free
  · rw [upd_ne (hc x c e)]; exact I.freeC x c e
  · obtain ⟨e, n, r⟩ := I.pin p hp2
    exact ⟨e, by rw [upd_ne (hp p hp2)]; exact n, r⟩
  · by_cases hb : b = a
    · subst hb
      rw [upd_same] at e; cases e
      exact new
    · rw [upd_ne hb] at e
      exact (I.hok b u e).stay (fun c v _ q => q) (fun c q => up _ _ q) fun c xs q => up _ _ q
theorem exH_ok {P : Program} {w : World} {h : Heap} {C : Addr} {d : Option Addr} {oe : Obj} {vs : Array Value} (e : h.get? a = some oe) (z : L2N.Zn (.ref C) d oe) (hd : oe.data = .fields vs) : ObjOk P w H h a (ExH C d a) :=
  ⟨⟨oe, vs, e, z, hd⟩, ⟨_, e⟩, fun h1 h2 ⟨o1, v1, e1, z1, d1⟩ k => ⟨o1, v1, k _ e1, z1, d1⟩⟩
theorem inv_suite (I : Inv X pins σ H s) (a : Addr) : Inv (X.suite a (X.pn ++ pins)) [] σ H s :=
  ⟨I.ok.suite _ _, I.os, I.bare, I.base, I.loc, I.cell, I.free, I.freeC, fun p hp => I.pin p (by rw [List.append_nil] at hp; exact hp), I.hok, I.len⟩
theorem inv_unsuite {pn' : List (Addr × Obj)} (I : Inv (X.suite a (X.pn ++ pins)) pn' σ H s) (ok : X.Ok) : Inv X pins σ H s :=
  ⟨ok, I.os, I.bare, I.base, I.loc, I.cell, I.free, I.freeC, fun p hp => I.pin p (List.mem_append_left _ hp), I.hok, I.len⟩
end
noncomputable def wHold (K : PySem.W.Frag) (c : Value) (i : Nat) (ts : Addr → TS) (Wout : WX) (D : Ends) : WX := fun cls d σ H =>
  ∃ b, PySem.W.exmOne K cls c = some b ∧ (b = true → ∃ C, cls = .ref C ∧ ∀ a, H a = none → ts a { nx := fun σ' H' => D.nx (σ'.set i none) H', rt := D.rt, bk := fun σ' H' => D.bk (σ'.set i none) H', ct := fun σ' H' => D.ct (σ'.set i none) H' } (σ.set i (some (.ref a))) (upd H a (ExH C d a))) ∧
    (b = false → Wout cls d σ H)
section
variable {X : Cx} {x n : Str} {c : Value} {i : Nat} {body suite : List Stmt} {b₀ : Stmt} {np pos pos' : Pos} {tb : WX → TS} {ts : Addr → TS} {Wout : WX}
theorem ps_try_hold (hs : X.stack = X.env :: X.outer) (hf : X.env.frame = some X.env.locals) (hex : X.ex = []) (hN : X.N.Nodup) (hi : X.N[i]? = some n) (hln : X.env.kindOf n = some .local) (hc : Names X x c) (tk : L2N.Takes X Wout)
    (hb : ∀ (W : WX) (pn : List (Addr × Obj)) (xe : Value → Shared → Prop), L2N.Takes (X.tr pn xe) W → PassesOwn (model X.prog X.w) X.A X.env xe → PSs (X.tr pn xe) body (tb W))
    (hsu : ∀ (a : Addr) (pn : List (Addr × Obj)), PSs (X.suite a pn) (b₀ :: suite) (ts a)) :
    PS X (.Try body [.ExceptHandler (some (.Name x np)) (some n) (b₀ :: suite) pos'] [] [] pos) (fun D σ H => tb (wHold X.K c i ts Wout D) D σ H) := by
  refine ⟨fun pins s σ H D I h => ?_⟩
  have ok := I.ok
  have hfr : X.A.frames = some (X.env :: X.outer) := by rw [ok.frames, hs]
  refine wpAny_Try_except ?_
  have bodyRun := (hb (wHold X.K c i ts Wout D) (X.pn ++ pins) (fun e s₁ => wpAny (model X.prog X.w) X.A (noteFrame e X.env) (fun _ s₂ => wpAny (model X.prog X.w) X.A (setFlight e none) (fun _ s₃ =>
    wpAny (model X.prog X.w) X.A (handleBy e X.env [.ExceptHandler (some (.Name x np)) (some n) (b₀ :: suite) pos']) (SP X pins D) X.xe s₃) X.xe s₂) X.xe s₁) ?_ PassesOwn.looking).run [] s σ H D (I.toTry _) h
  · refine wpAny_mono bodyRun (fun f s1 hsp => ?_) (fun e s1 he => he)
    cases f with
    | next =>
      obtain ⟨σ', H', J', q⟩ := hsp
      exact wpAny_execs_nil ⟨σ', H', J'.ofTry ok, q⟩
    | brk =>
      obtain ⟨σ', H', J', q⟩ := hsp
      exact ⟨σ', H', J'.ofTry ok, q⟩
    | cont =>
      obtain ⟨σ', H', J', q⟩ := hsp
      exact ⟨σ', H', J'.ofTry ok, q⟩
    | ret u =>
      obtain ⟨v, σ', H', J', r, q⟩ := hsp
      exact ⟨v, σ', H', J'.ofTry ok, r, q⟩
  · intro u s' xx
    obtain ⟨a, B, sI, pins', σ', H', cls, d, rfl, J', nb, up, sky, na, os, ag, b, hb1, hyes, hno⟩ := xx
    have J : Inv X pins σ' H' sI := J'.ofTry ok
    rw [hs] at sky
    show wpAny (model X.prog X.w) X.A (noteFrame (.ref a) X.env) _ _ _
    refine L2N.Sky.land L2N.Zn.steady hfr hf sky fun h3 fl3 up3 => ?_
    obtain ⟨oe3, vs3, he3, hz3, hd3⟩ := fl3.there
    -- where the exception doesn't stand
    have nfr : a ∉ frs (X.env :: X.outer) := fun hm => by
      obtain ⟨_, o', e', hnf⟩ := fl3.2.2.1.mem hm
      rw [he3] at e'; cases e'
      exact hnf _ hd3
    have nL : a ≠ X.env.locals := fun z => nfr (List.mem_filterMap.mpr ⟨X.env, List.mem_cons_self, by rw [hf, z]⟩)
    have nI : sI.heap.get? a = none := by
      cases e : sI.heap.get? a with
      | none => rfl
      | some ob =>
        have := nb a ob e (by rw [hs]; exact nfr)
        rw [fl3.2.1] at this; cases this
    have n0 : X.s_0.heap.get? a = none := by
      cases e : X.s_0.heap.get? a with
      | none => rfl
      | some ob =>
        obtain ⟨o', q⟩ := J.base.there a ob e (by rw [hex]; exact fun z => nomatch z)
        rw [nI] at q; cases q
    have nC : ∀ y c', X.env.cells.lookup y = some c' → c' ≠ a := fun y c' e z => by
      obtain ⟨v, q⟩ := J.cell y c' e
      obtain ⟨ob, ho, _⟩ := q
      rw [z, nI] at ho; cases ho
    have nP : ∀ p ∈ X.pn ++ pins, p.1 ≠ a := fun p hp z => by
      have := (J.pin p hp).1
      rw [z, nI] at this; cases this
    have J3 : Inv X pins σ' H' { s' with heap := h3 } := J.landed nb fl3.1 (up.trans up3) os ag
    refine wpAny_handleBy_cons (codeAny_handlers_test ?_) (by intro q; cases q)
    have LT : PySem.W.Looks (model X.prog X.w) h3 (typeOf (.ref a)) cls := fun A Q E s k q => wpAny_typeOf_ref (k _ _ he3) (by rw [hz3.1]; exact q)
    have LM := PySem.W.exm_one (M := model X.prog X.w) (J3.kIn) LT hb1
    have S3 : Inv (X.suite a (X.pn ++ pins)) [] σ' H' { s' with heap := h3 } := inv_suite J3 a
    have test : ∀ {Q : Value → Shared → Prop} {E : Value → Shared → Prop}, Q c { s' with heap := h3 } → wpAny (model X.prog X.w) (X.A.mark (some (.ref a))) (eval (.Name x np) X.env) Q E { s' with heap := h3 } := fun {Q E} q => by
      obtain ⟨hg, hdbg, hm | ⟨hm, hv, hnn⟩⟩ := hc
      · exact ld_glob (X := X.suite a (X.pn ++ pins)) S3 hg hm q hdbg
      · exact ld_blt (X := X.suite a (X.pn ++ pins)) S3 hg hm hv q hnn hdbg
    refine test (LM.here ?_)
    cases b with
    | true =>
      obtain ⟨C, rfl, hgo⟩ := hyes rfl
      refine codeAny_handlers_suite_as ?_
      refine HandSPX.lands_againZ fl3 fun h4 fl4 up4 => ?_
      obtain ⟨oe4, vs4, he4, hz4, hd4⟩ := fl4.there
      have J4 : Inv X pins σ' H' { s' with heap := h4 } := J.landed nb fl4.1 ((up.trans up3).trans up4) os ag
      have T4 : Inv X pins σ' (upd H' a (ExH C d a)) { s' with heap := h4 } := inv_hold J4 na n0 nL nC nP (exH_ok he4 hz4 hd4)
      have S4 := inv_suite T4 a
      refine store_ok (X := X.suite a (X.pn ++ pins)) (v := .ref a) S4 hN hi (.inl hln) rfl (fun s5 S5 => ?_) (.inr hln)
      refine wpAny_mono ((hsu a (X.pn ++ pins)).run [] s5 _ _ _ S5 (hgo a na)) (fun f s6 hsp => ?_) (fun _ _ z => False.elim z)
      have out : ∀ {σ6 : L2.St} {H6 : Hp} {Q : Shared → Prop}, Inv (X.suite a (X.pn ++ pins)) [] σ6 H6 s6 → (∀ s7, Inv X pins (σ6.set i none) H6 s7 → Q s7) →
          wpAny (model X.prog X.w) X.A (do bindName X.env n .none; unbindBehindTheSuite X.env n pos') (fun _ s7 => Q s7) X.xe s6 := fun {σ6 H6 Q} S6 hq => gone_ok (inv_unsuite S6 ok) hN hi hln hq
      cases f with
      | next =>
        obtain ⟨σ6, H6, S6, q6⟩ := hsp
        exact out S6 fun s7 J7 => ⟨_, _, J7, q6⟩
      | brk =>
        obtain ⟨σ6, H6, S6, q6⟩ := hsp
        exact out S6 fun s7 J7 => ⟨_, _, J7, q6⟩
      | cont =>
        obtain ⟨σ6, H6, S6, q6⟩ := hsp
        exact out S6 fun s7 J7 => ⟨_, _, J7, q6⟩
      | ret u =>
        obtain ⟨v6, σ6, H6, S6, r6, q6⟩ := hsp
        exact out S6 fun s7 J7 => ⟨_, _, _, J7, r6, q6⟩
    | false =>
      show wpAny _ X.A (handleBy (.ref a) X.env []) _ _ _
      refine wpAny_handleBy_nil ?_
      obtain ⟨k1, k2, k3, oe, vs, T, oT, ts', he, hz, hd, h1, hr⟩ := id fl3
      unfold PySem.passOn
      refine wpAny_bind (wpAny_field he hd h1 ?_)
      rw [if_neg (show ¬ ((Value.ref T == Value.none) = true) from by simp)]
      have fin : wpAny (model X.prog X.w) X.A (setFlight (.ref a) X.env.frame) (fun _ s4 => wpAny (model X.prog X.w) X.A (throw (.ref a) : Sem Flow) (SP X pins D) X.xe s4) X.xe { s' with heap := h3 } := by
        rw [hf]
        refine HandSPX.setFlight_upZ fl3 fun h4 hh4 up4 => wpAny_throw (tk _ _ ?_)
        exact ⟨a, B, sI, pins, σ', H', cls, d, rfl, J, nb, (up.trans up3).trans up4, .inr (.inr (by rw [hs]; exact hh4)), na, os, ag, hno rfl⟩
      first
        | exact wpAny_bind (wpAny_pure (wpAny_bind fin))
        | exact wpAny_bind fin
end
end L3
namespace L3
open PySem PySem.Spec PyProof.Rows L2
noncomputable def fRaiseC (c : Addr) : FS := fun S => some (.exc ⟨.ref c, []⟩ S)
noncomputable def fTryH (tbl : List (Addr × Bool)) (i : Nat) (fsu fb : FS) : FS := fun S => match fb S with
  | some (.exc e S1) => match e.cls with
    | .ref c => match tbl.lookup c with
      | some true => if i < S1.ρ.length then (match fsu { S1 with ρ := S1.ρ.set i (some (.dat (.exc c (e.fs.map (·.1)) (e.fs.map (·.2))))) } with
          | some (.nx S2) => some (.nx (S2.wipe [i]))
          | some (.bk S2) => some (.bk (S2.wipe [i]))
          | some (.ct S2) => some (.ct (S2.wipe [i]))
          | some (.rt x μ) => some (.rt x μ)
          | _ => none) else none
      | some false => some (.exc e S1)
      | none => none
    | _ => none
  | o => o
section
variable {K : PySem.W.Frag} {S : Sto} {σ : Sl} {H Φ : Hp} {A F G : List Addr}
theorem low_data {q : Addr} {o : HO} (st : Stands K S σ H Φ A F G) (e : H q = some o) (lo : Lo H q) : ∃ Φ', Step F G H Φ A F G H Φ' A ∧ Stands K S σ H Φ' A F G ∧ Φ' q = some o := by
  cases eq : Φ q with
  | some o' =>
    have := st.le _ _ eq
    rw [e] at this; cases this
    exact ⟨Φ, .refl, st, eq⟩
  | none =>
    have le : Same Φ (upd Φ q o) := upd_same' eq
    have nq : ∀ b, On H b ∧ Φ b = none → upd Φ q o b = none := fun b hb => by
      have : b ≠ q := fun z => by subst z; exact lo.no hb.1
      rw [upd_ne this]; exact hb.2
    refine ⟨upd Φ q o, ⟨fun _ _ h _ => h, le, fun b o' h => ?_, fun _ h => .inl h, fun _ h => .inl h, fun _ h => h, Pfx.refl⟩, ⟨fun b o' h => ?_, st.ro.frame le Pfx.refl (fun _ _ => rfl) fun b hb => nq b (st.ro.there b hb), st.rc.frame le Pfx.refl (fun _ _ => rfl) fun b hb => nq b (st.rc.there b hb), st.nd⟩, upd_same⟩
    · by_cases z : b = q
      · subst z; exact .inr (.inr (.inr lo))
      · rw [upd_ne z] at h; exact .inl h
    · by_cases z : b = q
      · subst z; rw [upd_same] at h; cases h; exact e
      · rw [upd_ne z] at h; exact st.le _ _ h
theorem exc_data {c : Value} {d : Option Addr} {e : Ex} {C a : Addr} (st : Stands K S σ H Φ A F G) (rx : RX K Φ H e c d) (hn : H a = none) :
    ∃ Φ', Step F G H Φ A F G (upd H a (ExH C d a)) Φ' A ∧ Stands K S σ (upd H a (ExH C d a)) Φ' A F G ∧ Rp K Φ' (.ref a) (.exc C (e.fs.map (·.1)) (e.fs.map (·.2))) := by
  obtain ⟨_, ⟨h1, rfl⟩ | ⟨h1, dx, vs, ds, rfl, h2, h3, h4, h5⟩⟩ := rx
  · obtain ⟨n1, n2, n3⟩ := new_frz (o := ExH C none a) st hn
    rw [h1]
    exact ⟨_, n1, n2, .exc (d := none) (vs := []) upd_same (fun dx z => nomatch z) ⟨fun _ => rfl, fun _ => rfl⟩ rfl .nil⟩
  · obtain ⟨Φ1, s1, st1, e1⟩ := low_data st h3 ⟨.inr (.inr ⟨_, h3⟩)⟩
    obtain ⟨n1, n2, n3⟩ := new_frz (o := ExH C (some dx) a) st1 hn
    have hl : (e.fs.map (·.1)).length = ds.length := by rw [List.length_map, ← h4, h5.length]
    have eds : e.fs.map (·.2) = ds := by
      conv => lhs; rw [h2]
      exact List.map_snd_zip (by omega)
    refine ⟨_, s1.trans0 n1, n2, ?_⟩
    rw [eds]
    refine .exc (d := some dx) (vs := vs) upd_same (fun dx' z => ?_) ⟨(fun z => nomatch z), fun z => absurd (List.map_eq_nil_iff.mp z) h1⟩ (by rw [List.length_map]; exact h4.symm) ((h5.mono s1.le).mono n3)
    cases z
    exact n3 _ _ e1
end
noncomputable def SEVa (K : PySem.W.Frag) (a : Addr) (W : WX) (t : TS) (f : FS) : Prop := ∀ S σ H Φ A F G, Stands K S σ H Φ A F G → (∃ C d, Φ a = some (ExH C d a)) → ∀ out, f S = some out → ∀ D, PostS K W F G H Φ A D out → t D σ H
section
variable {K : PySem.W.Frag} {W : WX} {ts : Addr → TS} {tb : WX → TS} {fsu fb : FS} {tbl : List (Addr × Bool)} {i : Nat} {cv : Value} {C : Addr}
theorem ev_raiseC : SEV K W (fun _ σ H => W (.ref C) none σ H) (fRaiseC C) := fun S σ H Φ A F G st out ho D q => by
  cases ho
  exact q (.ref C) none σ H Φ A F G .refl st ⟨rfl, .inl ⟨rfl, rfl⟩⟩
theorem ev_tryH (htbl : ∀ c b, tbl.lookup c = some b → PySem.W.exmOne K (.ref c) cv = some b) (hb : ∀ W', SEV K W' (tb W') fb) (hsu : ∀ a, SEVa K a W0 (ts a) fsu) : SEV K W (fun D σ H => tb (wHold K cv i ts W D) D σ H) (fTryH tbl i fsu fb) := fun S σ H Φ A F G st out ho D q => by
  unfold fTryH at ho
  cases e0 : fb S with
  | none => rw [e0] at ho; cases ho
  | some o =>
    rw [e0] at ho
    refine hb _ S σ H Φ A F G st o e0 D ?_
    cases o with
    | nx S1 => cases ho; exact q
    | bk S1 => cases ho; exact q
    | ct S1 => cases ho; exact q
    | rt x μ => cases ho; exact q
    | exc e S1 =>
      intro c d σ1 H1 Φ1 A1 F1 G1 rn st1 rx
      have ec := rx.1
      dsimp only at ho
      split at ho
      · rename_i C e1
        rw [e1] at ec
        subst ec
        cases el : tbl.lookup C with
        | none => rw [el] at ho; cases ho
        | some b =>
          rw [el] at ho
          refine ⟨b, htbl C b el, fun hbt => ?_, fun hbf => ?_⟩
          · subst hbt
            refine ⟨C, rfl, fun a hn => ?_⟩
            dsimp only at ho
            by_cases hi : i < S1.ρ.length
            · rw [if_pos hi] at ho
              obtain ⟨Φ2, n1, n2, rp⟩ := exc_data (C := C) (a := a) st1 rx hn
              have rs : RS K Φ2 (upd H1 a (ExH C d a)) A1 (.ref a) (.dat (.exc C (e.fs.map (·.1)) (e.fs.map (·.2)))) [] := .dat rp
              obtain ⟨F3, st3, hF⟩ := n2.set rs (by simpa using n2.nd) hi
              have r3 : Run F G H Φ A F3 G1 (upd H1 a (ExH C d a)) Φ2 A1 := (rn.trans n1.run).sub fun b hb => hb.imp_left fun h => by simpa using hF b h
              cases e3 : fsu { S1 with ρ := S1.ρ.set i (some (.dat (.exc C (e.fs.map (·.1)) (e.fs.map (·.2))))) } with
              | none => rw [e3] at ho; cases ho
              | some o3 =>
                rw [e3] at ho
                have ha : ∃ C d, Φ2 a = some (ExH C d a) := by
                  cases rp with
                  | exc h _ _ _ _ => exact ⟨_, _, h⟩
                refine hsu a _ _ _ _ _ _ _ st3 ha o3 e3 _ ?_
                have wp : ∀ {σ4 : Sl} {S4 : Sto} {H4 Φ4 : Hp} {A4 F4 G4 : List Addr}, Run F3 G1 (upd H1 a (ExH C d a)) Φ2 A1 F4 G4 H4 Φ4 A4 → Stands K S4 σ4 H4 Φ4 A4 F4 G4 →
                    ∃ F5, Run F G H Φ A F5 G4 H4 Φ4 A4 ∧ Stands K (S4.wipe [i]) (σ4.set i none) H4 Φ4 A4 F5 G4 := fun {σ4 S4 H4 Φ4 A4 F4 G4} r4 st4 => by
                  obtain ⟨F5, st5, s5⟩ := st4.wipe [i]
                  exact ⟨F5, (r3.trans r4).sub fun b hb => hb.imp_left fun h => s5.subset h, st5⟩
                cases o3 with
                | nx S4 =>
                  cases ho
                  intro σ4 H4 Φ4 A4 F4 G4 r4 st4
                  obtain ⟨F5, r5, st5⟩ := wp r4 st4
                  exact q _ _ _ _ _ _ r5 st5
                | bk S4 =>
                  cases ho
                  intro σ4 H4 Φ4 A4 F4 G4 r4 st4
                  obtain ⟨F5, r5, st5⟩ := wp r4 st4
                  exact q _ _ _ _ _ _ r5 st5
                | ct S4 =>
                  cases ho
                  intro σ4 H4 Φ4 A4 F4 G4 r4 st4
                  obtain ⟨F5, r5, st5⟩ := wp r4 st4
                  exact q _ _ _ _ _ _ r5 st5
                | rt x μ =>
                  cases ho
                  exact fun v H' Φ' A' T G' r4 st rs nd => q v H' Φ' A' T G' (r3.trans r4) st rs nd
                | exc e S4 => cases ho
            · rw [if_neg hi] at ho; cases ho
          · subst hbf
            cases ho
            exact q _ _ _ _ _ _ _ _ rn st1 rx
      · cases ho
end
section
variable {X : Cx} {W : WX} {x n : Str} {cv : Value} {C : Addr} {i : Nat} {body suite : List Stmt} {b₀ : Stmt} {p np pos pos' : Pos} {tb : WX → TS} {ts : TS} {fsu fb : FS} {tbl : List (Addr × Bool)}
theorem ds_raiseC (T : ExN X.K C) (gC : X.mg x = some (.ref C)) (hc : X.calm = true := by rfl) (tk : L2N.Takes X W := by first | exact takesN0 | exact L2N.takes_of rfl rfl rfl rfl) (hg : Gl X x := by rfl) (hdb : (x == ("__debug__" : Str)) = false := by decide) :
    DS X W (.Raise (some (.Name x p)) none pos) (fun _ σ H => W (.ref C) none σ H) (fRaiseC C) := ⟨ps_raiseC hc tk T hg gC hdb, ev_raiseC⟩
noncomputable def sOf (K : PySem.W.Frag) (W : WX) (f : FS) : TS := fun D σ H => ∃ S Φ A F G out, Stands K S σ H Φ A F G ∧ f S = some out ∧ PostS K W F G H Φ A D out
theorem db_sOf {body : List Stmt} {t : TS} {f : FS} (h : DB X W body t f) : DB X W body (sOf X.K W f) f :=
  ⟨⟨fun pins s σ H D I ⟨S, Φ, A, F, G, out, st, ho, q⟩ => h.ps.run pins s σ H D I (h.ev S σ H Φ A F G st out ho D q)⟩, fun S σ H Φ A F G st out ho D q => ⟨S, Φ, A, F, G, out, st, ho, q⟩⟩
theorem ds_tryH (hN : X.N.Nodup) (gc : X.mg x = some cv) (htbl : ∀ c b, tbl.lookup c = some b → PySem.W.exmOne X.K (.ref c) cv = some b)
    (hb : ∀ (W' : WX) (pn : List (Addr × Obj)) (xe : Value → Shared → Prop), L2N.Takes (X.tr pn xe) W' → ∃ t, DB (X.tr pn xe) W' body t fb) (hsu : ∀ (a : Addr) (pn : List (Addr × Obj)), ∃ t, DB (X.suite a pn) W0 (b₀ :: suite) t fsu)
    (hi : X.N[i]? = some n := by rfl) (hln : X.env.kindOf n = some .local := by rfl) (tk : L2N.Takes X W := by first | exact takesN0 | exact L2N.takes_of rfl rfl rfl rfl)
    (hs : X.stack = X.env :: X.outer := by rfl) (hf : X.env.frame = some X.env.locals := by rfl) (hex : X.ex = [] := by rfl) (hg : Gl X x := by rfl) (hdb : (x == ("__debug__" : Str)) = false := by decide) :
    DS X W (.Try body [.ExceptHandler (some (.Name x np)) (some n) (b₀ :: suite) pos'] [] [] pos) (fun D σ H => sOf X.K (wHold X.K cv i (fun _ => sOf X.K W0 fsu) W D) fb D σ H) (fTryH tbl i fsu fb) :=
  ⟨ps_try_hold (tb := fun W' => sOf X.K W' fb) (ts := fun _ => sOf X.K W0 fsu) hs hf hex hN hi hln ⟨hg, hdb, .inl gc⟩ tk (fun W' pn xe tk' _ => by
      obtain ⟨t, h⟩ := hb W' pn xe tk'
      exact (db_sOf h).ps) (fun a pn => by
      obtain ⟨t, h⟩ := hsu a pn
      exact (db_sOf h).ps), ev_tryH (tb := fun W' => sOf X.K W' fb) htbl (fun W' => fun S σ H Φ A F G st out ho D q => ⟨S, Φ, A, F, G, out, st, ho, q⟩) (fun _ S σ H Φ A F G st _ out ho D q => ⟨S, Φ, A, F, G, out, st, ho, q⟩)⟩
end
end L3
namespace L3
open PySem PySem.Spec PyProof.Rows L2
section
variable {X : Cx} {pins : List (Addr × Obj)} {σ : L2.St} {H : Hp} {s : Shared} {a D : Addr}
end
noncomputable def tCs (cs : List V) : TA := fun _ H Q => Q cs H
structure PCs (X : Cx) (es : List Expr) (cs : List V) (us : List Value) : Prop where
  pa : PA X es (tCs cs)
  pr : Paired ClsV cs us
section
variable {X : Cx} {es : List Expr} {cs : List V} {us : List Value} {x T : Str} {C : Addr} {p : Pos}
theorem pcs_nil : PCs X [] [] [] := ⟨pa_nil, .nil⟩
theorem pcs_own (gC : X.mg x = some (.ref C)) (r : PCs X es cs us) (hg : Gl X x := by rfl) (hd : (x == ("__debug__" : Str)) = false := by decide)
    (hs : starEach (.Name x p :: es) X.env = (false, eval (.Name x p) X.env) :: starEach es X.env := by rfl) : PCs X (.Name x p :: es) (.ref C :: cs) (.ref C :: us) :=
  ⟨pa_cons (pe_glob (v := .ref C) hg gC rfl hd) r.pa hs, .cons (.own C) r.pr⟩
end
noncomputable def fIsH (tbl : List (Addr × Bool)) (fe : FE) : FE := bindE fe fun r S => match r.peek S with
  | some (.exc c [] _) => (tbl.lookup c).map fun b => .ok (.d (.bl b)) S
  | _ => none
section
variable {X : Cx} {W : WX} {e e2 : Expr} {es : List Expr} {te : TE} {fe : FE} {p p2 pos : Pos} {x1 : Nat} {cs : List V} {us : List Value} {c : V} {cv : Value} {tbl : List (Addr × Bool)}
end
end L3
namespace L3
open PySem PySem.Spec PyProof.Rows L2
theorem lk_nil {α β : Type} [BEq α] {P : α → β → Prop} : ∀ c b, List.lookup c ([] : List (α × β)) = some b → P c b := fun c b h => by cases h
theorem lk_cons {β : Type} {P : Addr → β → Prop} {a : Addr} {b0 : β} {tl : List (Addr × β)} (h : P a b0) (r : ∀ c b, tl.lookup c = some b → P c b) : ∀ c b, ((a, b0) :: tl).lookup c = some b → P c b := fun c b e => by
  rw [List.lookup_cons] at e
  by_cases hc : c = a
  · subst hc
    rw [beq_self_eq_true] at e
    cases e; exact h
  · have : (c == a) = false := beq_false_of_ne hc
    rw [this] at e
    exact r c b e
section
variable {K : PySem.W.Frag} {A C : Addr} {b r : Bool} {cs : List Value} {T : String}
theorem exN_mk (e : PySem.W.excIn K C [.type "ValueError", .type "Exception", .type "BaseException", .type "object"] "ValueError.__new__" = true) (ht : PySem.W.typeIn K (.ref C) = some (.type "type")) (h1 : PySem.W.mroIn K C (.ref C) = some true) (h2 : PySem.W.mroIn K C (.type "BaseException") = some true) : ExN K C := by
  refine ⟨⟨_, _, _, _, PySem.F.excBase_ValueError, e⟩, ?_, ht, h1, h2⟩
  obtain ⟨cd, hc, _⟩ := Option.bind_eq_some_iff.mp (show (PySem.W.clsIn K C).bind _ = some true from h1)
  unfold PySem.W.clsIn at hc
  split at hc
  · rename_i c' d' cd' sl' ho
    exact ⟨_, _, _, _, ho⟩
  · cases hc
theorem excC_mk (h1 : PySem.W.findIn K (.ref C) "__getattribute__" = some (some (.builtin "BaseException.__getattribute__"))) (h2 : PySem.W.findIn K (.ref C) "__getattr__" = some none) (h3 : PySem.W.subIn K (.ref C) (.type "BaseException") = some true) (h4 : PySem.W.hasDictIn K C = true)
    (h5 : PySem.W.findIn K (.ref C) "__class__" = some (some (.builtin "object.__class__"))) (h6 : PySem.W.specialIn K (.builtin "object.__class__") "__get__" = some (some (.builtin "getset_descriptor.__get__"))) (h7 : PySem.W.takesIn K (.builtin "object.__class__") = some true) (h8 : PySem.W.mroIn K C (.type "object") = some true) : ExcC K C := ⟨h1, h2, h3, h4, h5, h6, h7, h8⟩
theorem cls_some (hd : PySem.W.hasDictIn K C = true) : (PySem.W.clsIn K C).isSome = true := by
  obtain ⟨cd, hc, _⟩ := PySem.W.any_some hd
  rw [hc]; rfl
theorem kitO_own (hd : PySem.W.hasDictIn K C = true) (ht : PySem.W.typeIn K (.ref C) = some (.type "type")) (hs : PySem.W.subIn K (.ref A) (.ref C) = some b) (hq : (Value.ref A == Value.ref C) = true → b = true) : PySem.W.kitOne K (.ref A) (.ref C) = some b := by
  unfold PySem.W.kitOne
  by_cases h : (Value.ref A == Value.ref C) = true
  · rw [if_pos h, hq h]
  · rw [if_neg h]
    show (if ((PySem.W.clsIn K C).isSome && PySem.W.typeIn K (.ref C) == some (.type "type")) = true then PySem.W.subIn K (.ref A) (.ref C) else none) = some b
    rw [cls_some hd, ht, hs]
    rfl
theorem kitA_no {v : Value} (h : PySem.W.kitOne K (.ref A) v = some false) (t : PySem.W.kitAny K (.ref A) cs = some r) : PySem.W.kitAny K (.ref A) (v :: cs) = some r := kitAny_cons h (fun _ => t) (fun z => nomatch z)
theorem kitA_nil : PySem.W.kitAny K (.ref A) [] = some false := rfl
end
end L3
namespace L3
open PySem PySem.Spec PyProof.Rows L2
noncomputable def maxI : List Int → Int
  | [] => 0
  | i :: r => r.foldr max i
noncomputable def maxID : List D → Option D
  | [.lst ds] => (intsD ds).bind fun is => if is.isEmpty = true then none else some (.int (maxI is))
  | _ => none
section
variable {X : Cx} {W : WX} {e : Expr} {es : List Expr} {p pos : Pos} {t : TA} {fA : FA}
@[simp] theorem s_maxID {ds : List D} : maxID [.lst ds] = (intsD ds).bind fun is => if is.isEmpty = true then none else some (.int (maxI is)) := rfl
end
end L3
namespace L3
open PySem PySem.Spec PyProof.Rows L2
section
variable {S : Sto} {ρ : List (Option SV)} {μ : List SV} {x y : SV} {xs : List SV} {i j : Nat} {p : List Nat} {d : D} {ds es : List D} {n : Nd} {ra rb r : R} {kk : R → Sto → Prop} {k : Nat}
@[simp] theorem s_peek_val : R.peek S (.val x) = x.peek := rfl
@[simp] theorem s_peek_bor : R.peek S (.bor i p) = (S.sub i p).bind SV.peek := rfl
@[simp] theorem s_sv_val : R.sv S (.val x) = some x := rfl
@[simp] theorem s_sv_bor : R.sv S (.bor i p) = S.sub i p := rfl
@[simp] theorem s_sub0 : x.sub [] = some x := by cases x <;> rfl
@[simp] theorem s_sub1 : (SV.node n xs).sub (k :: p) = (xs[k]?).bind fun y => y.sub p := by
  show (match xs[k]? with | some y => y.sub p | none => none) = _
  cases xs[k]? <;> rfl
@[simp] theorem s_sub : Sto.sub ⟨ρ, μ⟩ i p = (ρ[i]?).bind fun o => o.bind fun x => x.sub p := by
  unfold Sto.sub
  show (match ρ[i]? with | some (some x) => x.sub p | _ => none) = _
  cases ρ[i]? with
  | none => rfl
  | some o => cases o <;> rfl
@[simp] theorem s_pk_dat : (SV.dat d).peek = some d := rfl
@[simp] theorem s_pk_lst : (SV.node .lst xs).peek = (peeks xs).map D.lst := rfl
@[simp] theorem s_pk_dK {ks : List Key} : (SV.node (.dK ks) xs).peek = (peeks xs).map (D.dK ks) := rfl
@[simp] theorem s_pk_cell : (SV.cell k).peek = none := rfl
@[simp] theorem s_pks0 : peeks [] = some [] := rfl
@[simp] theorem s_pks1 : peeks (x :: xs) = (x.peek).bind fun d => (peeks xs).map fun ds => d :: ds := rfl
@[simp] theorem s_pks_dat : peeks (ds.map SV.dat) = some ds := by
  induction ds with
  | nil => rfl
  | cons d ds ih => rw [List.map_cons, s_pks1, ih]; rfl
@[simp] theorem s_dats_dat : dats (ds.map SV.dat) = some ds := by
  induction ds with
  | nil => rfl
  | cons d ds ih =>
    rw [List.map_cons]
    show (dats (ds.map SV.dat)).map (fun ds => d :: ds) = _
    rw [ih]; rfl
@[simp] theorem s_dats0 : dats [] = some [] := rfl
@[simp] theorem s_dats1 : dats (.dat d :: xs) = (dats xs).map fun ds => d :: ds := rfl
@[simp] theorem s_its_dl : R.its S (.val (.dat (.lst ds))) = some (false, ds) := rfl
@[simp] theorem s_its_dt : R.its S (.val (.dat (.tup ds))) = some (true, ds) := rfl
@[simp] theorem s_its_n : R.its S (.val (.node .lst xs)) = (peeks xs).map fun ds => (false, ds) := rfl
noncomputable def SV.its : SV → Option (Bool × List D)
  | .dat (.lst ds) => some (false, ds)
  | .dat (.tup ds) => some (true, ds)
  | .dat (.kl ds) => some (false, ds)
  | .node .lst xs => (dats xs).map fun ds => (false, ds)
  | _ => none
@[simp] theorem s_its_b : R.its S (.bor i p) = (S.sub i p).bind SV.its := by
  unfold R.its
  rw [s_sv_bor]
  cases S.sub i p with
  | none => rfl
  | some x =>
    cases x with
    | dat d => cases d <;> rfl
    | cell c => rfl
    | node n xs => cases n <;> rfl
@[simp] theorem s_i_dl : (SV.dat (.lst ds)).its = some (false, ds) := rfl
@[simp] theorem s_i_kl : (SV.dat (.kl ds)).its = some (false, ds) := rfl
@[simp] theorem s_its_kl : R.its S (.val (.dat (.kl ds))) = some (false, ds) := rfl
@[simp] theorem s_i_dt : (SV.dat (.tup ds)).its = some (true, ds) := rfl
@[simp] theorem s_i_n : (SV.node .lst xs).its = (dats xs).map fun ds => (false, ds) := rfl
@[simp] theorem s_bl : R.bl S (.val (.dat (.bl b))) = some b := rfl
@[simp] theorem s_tru_val : R.tru S (.val (.dat d)) = match d with | .dK _ _ => none | d => truD d := by cases d <;> rfl
@[simp] theorem s_tru_bor : R.tru S (.bor i p) = (S.sub i p).bind fun x => match x with | .dat (.dK _ _) => none | x => x.peek.bind truD := by
  unfold R.tru; rw [s_sv_bor]
  cases S.sub i p with
  | none => rfl
  | some x => cases x with
    | dat d => cases d <;> rfl
    | _ => rfl
@[simp] theorem s_t_bl {b : Bool} : truD (.bl b) = some b := rfl
@[simp] theorem s_kid_val : R.kid S (.val x) = some (x, S) := rfl
@[simp] theorem s_kid_bor : R.kid ⟨ρ, μ⟩ (.bor i p) = (Sto.sub ⟨ρ, μ⟩ i p).bind fun x => match x with
    | .cell k => some (.cell k, ⟨ρ, μ⟩)
    | .dat d => some (.dat d, ⟨ρ, μ⟩)
    | x => (x.peek).bind fun d => (ρ[i]?).bind fun o => o.map fun x0 => (.dat d, ⟨ρ.set i (some (x0.putp p (.dat d))), μ⟩) := by
  rw [s_sub]
  unfold R.kid R.esc
  dsimp only
  cases e : ρ[i]? with
  | none => simp [Sto.sub, e]
  | some o =>
    cases o with
    | none => simp [Sto.sub, e]
    | some x0 =>
      cases e2 : x0.sub p with
      | none => simp [Sto.sub, e, e2]
      | some x =>
        cases x with
        | dat d => simp [Sto.sub, e, e2]
        | cell c => simp [Sto.sub, e, e2]
        | node n xs => cases e3 : (SV.node n xs).peek <;> simp [Sto.sub, e, e2, e3]
@[simp] theorem s_esc_val : R.esc S (.val x) = x.peek.map fun d => (d, S) := rfl
@[simp] theorem s_esc_bor : R.esc ⟨ρ, μ⟩ (.bor i p) = (Sto.sub ⟨ρ, μ⟩ i p).bind fun x => match x with
    | .dat d => some (d, ⟨ρ, μ⟩)
    | x => (x.peek).bind fun d => (ρ[i]?).bind fun o => o.map fun x0 => (d, ⟨ρ.set i (some (x0.putp p (.dat d))), μ⟩) := by
  rw [s_sub]
  unfold R.esc
  dsimp only
  cases e : ρ[i]? with
  | none => simp
  | some o =>
    cases o with
    | none => simp
    | some x0 =>
      cases e2 : x0.sub p with
      | none => simp [e2]
      | some x =>
        cases x with
        | dat d => simp [e2]
        | cell c => simp [e2, SV.peek]
        | node n xs => cases e3 : (SV.node n xs).peek <;> simp [e2, e3]
@[simp] theorem s_putp0 : x.putp [] y = y := by cases x <;> rfl
@[simp] theorem s_arg_val : R.arg S (.val x) = match x with
    | .cell k => some (.cell k, S)
    | x => x.peek.map fun d => (.dat d, S) := by
  unfold R.arg
  rw [s_sv_val]
  cases x with
  | cell c => rfl
  | dat d => rfl
  | node n xs => rw [s_esc_val]; cases e : (SV.node n xs).peek <;> simp [e]
@[simp] theorem s_arg_bor : R.arg ⟨ρ, μ⟩ (.bor i p) = (Sto.sub ⟨ρ, μ⟩ i p).bind fun x => match x with
    | .cell k => some (.cell k, ⟨ρ, μ⟩)
    | .dat d => some (.dat d, ⟨ρ, μ⟩)
    | x => (x.peek).bind fun d => (ρ[i]?).bind fun o => o.map fun x0 => (.dat d, ⟨ρ.set i (some (x0.putp p (.dat d))), μ⟩) := by
  unfold R.arg
  rw [s_sv_bor]
  cases e : Sto.sub ⟨ρ, μ⟩ i p with
  | none => simp [s_esc_bor, e]
  | some x =>
    cases x with
    | cell c => rfl
    | dat d => simp [s_esc_bor, e]
    | node n xs =>
      simp only [s_esc_bor, e, Option.bind_some]
      cases e3 : (SV.node n xs).peek with
      | none => simp
      | some d =>
        cases e4 : ρ[i]? with
        | none => simp
        | some o => cases o <;> simp
@[simp] theorem s_args0 : argsOf [] S = some ([], S) := rfl
@[simp] theorem s_args1 {rs : List R} {kl : List SV → Sto → Prop} : Gb (argsOf (r :: rs) S) kl = Gb (r.arg S) fun x S1 => Gb (argsOf rs S1) fun xs S2 => kl (x :: xs) S2 := by
  show Gb (match r.arg S with
    | some (x, S1) => match argsOf rs S1 with
      | some (xs, S2) => some (x :: xs, S2)
      | none => none
    | none => none) kl = _
  cases e : r.arg S with
  | none => simp
  | some z => obtain ⟨a, S1⟩ := z; cases e2 : argsOf rs S1 <;> simp [e2]
@[simp] theorem s_kids0 : kids [] S = some ([], S) := rfl
@[simp] theorem s_kids1 {rs : List R} {kl : List SV → Sto → Prop} : Gb (kids (r :: rs) S) kl = Gb (r.kid S) fun x S1 => Gb (kids rs S1) fun xs S2 => kl (x :: xs) S2 := by
  show Gb (match r.kid S with
    | some (x, S1) => match kids rs S1 with
      | some (xs, S2) => some (x :: xs, S2)
      | none => none
    | none => none) kl = _
  cases e : r.kid S with
  | none => simp
  | some z => obtain ⟨a, S1⟩ := z; cases e2 : kids rs S1 <;> simp [e2]
@[simp] theorem s_escs0 : escs [] S = some ([], S) := rfl
@[simp] theorem s_escs1 {rs : List R} {kl : List D → Sto → Prop} : Gb (escs (r :: rs) S) kl = Gb (r.esc S) fun x S1 => Gb (escs rs S1) fun xs S2 => kl (x :: xs) S2 := by
  show Gb (match r.esc S with
    | some (x, S1) => match escs rs S1 with
      | some (xs, S2) => some (x :: xs, S2)
      | none => none
    | none => none) kl = _
  cases e : r.esc S with
  | none => simp
  | some z => obtain ⟨a, S1⟩ := z; cases e2 : escs rs S1 <;> simp [e2]
@[simp] theorem s_pkr0 : peeksR [] S = some [] := rfl
@[simp] theorem s_put : Sto.put ⟨ρ, μ⟩ i x = if i < ρ.length then some ⟨ρ.set i (some x), μ⟩ else none := rfl
@[simp] theorem s_putAll0 : putAll [] [] S = some S := rfl
@[simp] theorem s_putAll1 {is : List Nat} {k : Sto → Prop} : Ob (putAll (i :: is) (x :: xs) S) k = Ob (S.put i x) fun S1 => Ob (putAll is xs S1) k := by
  show Ob (match S.put i x with | some S1 => putAll is xs S1 | none => none) k = _
  cases S.put i x <;> simp
@[simp] theorem s_g2 {g : D → D → Option D} : Gb (g2 g ra rb S) kk = Ob (ra.peek S) fun x => Ob (rb.peek S) fun y => Ob (g x y) fun z => kk (.d z) S := by
  unfold g2
  cases ra.peek S with
  | none => simp
  | some a => cases rb.peek S with
    | none => simp
    | some b => simp
@[simp] theorem s_gD {g : List D → Option D} {rs : List R} : Gb (gD g rs S) kk = Ob (peeksR rs S) fun ds => Ob (g ds) fun d => kk (.d d) S := by unfold gD; cases peeksR rs S <;> simp
@[simp] theorem s_dI {i j : Int} {f : Int → Int → Option D} : dI f (.int i) (.int j) = f i j := rfl
variable {a b c : Int}
@[simp] theorem s_iAdd : iAdd a b = some (.int (a + b)) := rfl
@[simp] theorem s_iSub : iSub a b = some (.int (a - b)) := rfl
@[simp] theorem s_iMul : iMul a b = if (-(2 ^ 64) < a ∧ a < 2 ^ 64) ∨ (-(2 ^ 64) < b ∧ b < 2 ^ 64) then some (.int (a * b)) else none := rfl
@[simp] theorem s_iDiv : iDiv a b = if 0 < b ∧ b < 1073741824 then some (.int (a / b)) else none := rfl
@[simp] theorem s_iMod : iMod a b = if 0 < b then some (.int (a % b)) else none := rfl
@[simp] theorem s_iPow : iPow a b = if 0 ≤ b ∧ b ≤ 1000000 ∧ a.natAbs < 2 ^ 64 then some (.int (a ^ b.toNat)) else none := rfl
@[simp] theorem s_neg : negD (.int a) = some (.int (-a)) := rfl
@[simp] theorem s_lt : dLt (.int a) (.int b) = some (.bl (decide (a < b))) := rfl
@[simp] theorem s_le : dLe (.int a) (.int b) = some (.bl (decide (a ≤ b))) := rfl
@[simp] theorem s_intOf : intOf (.int a) = some a := rfl
@[simp] theorem s_key_i : (D.int a).key = some (.inl a) := rfl
@[simp] theorem s_key_s {z : Str} : (D.str z).key = some (.inr z) := rfl
@[simp] theorem s_dEq {x y : D} {k : D → Prop} : Ob (dEq x y) k = Ob (eqD x y) fun b => k (.bl b) := by unfold dEq; simp
@[simp] theorem s_dNe {x y : D} {k : D → Prop} : Ob (dNe x y) k = Ob (eqD x y) fun b => k (.bl (!b)) := by unfold dNe; simp
@[simp] theorem s_isStr {z : Str} : isStr (.str z) = true := rfl
noncomputable def addK (ra rb : R) (S : Sto) : SV → SV → Option (R × Sto)
  | .dat (.int a), .dat (.int b) => some (.d (.int (a + b)), S)
  | .dat (.str a), .dat (.str b) => if a.length + b.length ≤ 1000000 then some (.d (.str (a ++ b)), S) else none
  | _, _ => (gCat ra rb S).orElse fun _ => gCatT ra rb S
theorem node_peek {n : Nd} {xs : List SV} {d : D} (h : (SV.node n xs).peek = some d) : (∀ a, d ≠ .int a) ∧ ∀ a, d ≠ .str a := by
  cases n with
  | ins => exact nomatch h
  | _ =>
    cases e : peeks xs with
    | none => simp [SV.peek, e] at h
    | some ds => simp [SV.peek, e] at h; subst h; exact ⟨fun _ => by simp, fun _ => by simp⟩
theorem gAdd_eq : gAdd ra rb S = (ra.sv S).bind fun x => (rb.sv S).bind fun y => addK ra rb S x y := by
  unfold gAdd g2 R.peek
  cases ex : ra.sv S with
  | none => simp [gCat, gCatT, R.its, ex]
  | some x =>
    cases ey : rb.sv S with
    | none =>
      have e2 : rb.its S = none := by unfold R.its; rw [ey]
      cases h : x.peek <;> simp [gCat, gCatT, e2, h] <;> (cases ra.its S with
        | none => simp
        | some z => obtain ⟨t, ds⟩ := z; cases t <;> simp)
    | some y =>
      simp only [Option.bind_some]
      cases h1 : x.peek with
      | none =>
        have : ∀ a, x ≠ .dat a := fun a e => by subst e; simp at h1
        cases x with
        | dat a => exact absurd rfl (this a)
        | _ => simp [addK]
      | some dx =>
        cases h2 : y.peek with
        | none =>
          have : ∀ a, y ≠ .dat a := fun a e => by subst e; simp at h2
          cases y with
          | dat a => exact absurd rfl (this a)
          | _ => cases x with
            | dat d => cases d <;> simp [addK]
            | _ => simp [addK]
        | some dy =>
          dsimp only
          cases x with
          | cell c => simp at h1
          | node n xs =>
            obtain ⟨k1, k2⟩ := node_peek h1
            have a1 : dI iAdd dx dy = none := by cases dx <;> first | rfl | exact absurd rfl (k1 _)
            have a2 : sAdd dx dy = none := by cases dx <;> first | rfl | exact absurd rfl (k2 _)
            simp [a1, a2, addK]
          | dat d =>
            have e1 : d = dx := Option.some.inj h1
            subst e1
            cases y with
            | cell c => simp at h2
            | node n ys =>
              obtain ⟨k1, k2⟩ := node_peek h2
              have a1 : dI iAdd d dy = none := by cases d <;> cases dy <;> first | rfl | exact absurd rfl (k1 _)
              have a2 : sAdd d dy = none := by cases d <;> cases dy <;> first | rfl | exact absurd rfl (k2 _)
              cases d <;> simp [a1, a2, addK]
            | dat d' =>
              have e2 : d' = dy := Option.some.inj h2
              subst e2
              cases d <;> cases d' <;> simp [addK, dI, iAdd, sAdd]
              rename_i u v
              by_cases h : u.length + v.length ≤ 1000000
              · simp [h]
              · simp [h, gCat, gCatT, R.its, ex]
@[simp] theorem s_gAdd : Gb (gAdd ra rb S) kk = Ob (ra.sv S) fun x => Ob (rb.sv S) fun y => Gb (addK ra rb S x y) kk := by
  rw [gAdd_eq]; cases ra.sv S <;> cases rb.sv S <;> simp
@[simp] theorem s_addI : addK ra rb S (.dat (.int a)) (.dat (.int b)) = some (.d (.int (a + b)), S) := rfl
@[simp] theorem s_addS {y z : Str} : addK ra rb S (.dat (.str y)) (.dat (.str z)) = if y.length + z.length ≤ 1000000 then some (.d (.str (y ++ z)), S) else none := rfl
noncomputable def addL (u v : Option (Bool × List D)) (S : Sto) : Option (R × Sto) := match u, v with
  | some (false, ds), some (false, es) => if ds.length + es.length ≤ 1000000 then some (.val (.own ((ds ++ es).map SV.dat)), S) else none
  | some (true, ds), some (true, es) => if ds.length + es.length ≤ 1000000 then some (.d (.tup (ds ++ es)), S) else none
  | _, _ => none
theorem addL_eq : ((gCat ra rb S).orElse fun _ => gCatT ra rb S) = addL (ra.its S) (rb.its S) S := by
  unfold gCat gCatT addL
  cases ra.its S with
  | none => simp
  | some u =>
    obtain ⟨t, ds⟩ := u
    cases rb.its S with
    | none => cases t <;> simp
    | some v =>
      obtain ⟨t', es⟩ := v
      cases t <;> cases t' <;> simp
@[simp] theorem s_addN {n : Nd} : addK ra rb S (.node n xs) y = addL (ra.its S) (rb.its S) S := by rw [← addL_eq]; cases y <;> rfl
@[simp] theorem s_addL : addK ra rb S (.dat (.lst ds)) y = addL (ra.its S) (rb.its S) S := by rw [← addL_eq]; cases y <;> rfl
@[simp] theorem s_addKL : addK ra rb S (.dat (.kl ds)) y = addL (ra.its S) (rb.its S) S := by rw [← addL_eq]; cases y <;> rfl
@[simp] theorem s_addT : addK ra rb S (.dat (.tup ds)) y = addL (ra.its S) (rb.its S) S := by rw [← addL_eq]; cases y <;> rfl
@[simp] theorem s_addLL : addL (some (false, ds)) (some (false, es)) S = if ds.length + es.length ≤ 1000000 then some (.val (.own ((ds ++ es).map SV.dat)), S) else none := rfl
@[simp] theorem s_addTT : addL (some (true, ds)) (some (true, es)) S = if ds.length + es.length ≤ 1000000 then some (.d (.tup (ds ++ es)), S) else none := rfl
noncomputable def ixK (ra : R) (S : Sto) (k : D) : SV → Option (R × Sto)
  | .dat (.lst ds) => (intOf k).bind fun i => (atI ds i).map fun d => (.d d, S)
  | .dat (.tup ds) => (intOf k).bind fun i => (atI ds i).map fun d => (.d d, S)
  | .dat (.kt ds) => (intOf k).bind fun i => (atI ds i).map fun d => (.d d, S)
  | .dat (.str x) => (intOf k).bind fun i => if x.length ≤ 1000000 then (atI x.cps.toList i).map fun c => (.d (.str ⟨#[c]⟩), S) else none
  | .node .lst xs => (intOf k).bind fun i => (ixN xs.length i).bind fun j => (xs[j]?).bind fun x => (kidR ra j x).map fun r => (r, S)
  | x => (dgX ra k S x).bind fun o => o.map fun r => (r, S)
theorem gIx_eq : gIx ra rb S = (ra.sv S).bind fun x => (rb.peek S).bind fun k => ixK ra S k x := by
  unfold gIx gIxS gIxD dgetR
  cases ek : rb.peek S with
  | none => cases ra.sv S <;> simp
  | some k =>
    cases ex : ra.sv S with
    | none => cases k <;> simp [intOf]
    | some x =>
      simp only [Option.bind_some]
      cases x with
      | cell c => cases k <;> simp [ixK, intOf] <;> rfl
      | node n xs =>
        cases n with
        | lst => cases k <;> simp [ixK, intOf, dgX, nidx]
        | _ => cases k <;> simp [ixK, intOf] <;> rfl
      | dat d =>
        cases d with
        | lst ds => cases k <;> simp [ixK, intOf, dgX, SV.dget]
        | tup ds => cases k <;> simp [ixK, intOf, dgX, SV.dget]
        | kt ds => cases k <;> simp [ixK, intOf, dgX, SV.dget]
        | str z => cases k <;> simp [ixK, intOf, dgX, SV.dget]
        | _ => cases k <;> simp [ixK, intOf] <;> rfl
@[simp] theorem s_gIx : Gb (gIx ra rb S) kk = Ob (ra.sv S) fun x => Ob (rb.peek S) fun k => Gb (ixK ra S k x) kk := by rw [gIx_eq]; cases ra.sv S <;> cases rb.peek S <;> simp
@[simp] theorem s_ixL {k : D} : ixK ra S k (.dat (.lst ds)) = (intOf k).bind fun i => (atI ds i).map fun d => (.d d, S) := rfl
@[simp] theorem s_ixT {k : D} : ixK ra S k (.dat (.tup ds)) = (intOf k).bind fun i => (atI ds i).map fun d => (.d d, S) := rfl
@[simp] theorem s_ixKT {k : D} : ixK ra S k (.dat (.kt ds)) = (intOf k).bind fun i => (atI ds i).map fun d => (.d d, S) := rfl
@[simp] theorem s_ixS {k : D} {x : Str} : ixK ra S k (.dat (.str x)) = (intOf k).bind fun i => if x.length ≤ 1000000 then (atI x.cps.toList i).map fun c => (.d (.str ⟨#[c]⟩), S) else none := rfl
@[simp] theorem s_ixN {k : D} : ixK ra S k (.node .lst xs) = (intOf k).bind fun i => (ixN xs.length i).bind fun j => (xs[j]?).bind fun x => (kidR ra j x).map fun r => (r, S) := rfl
@[simp] theorem s_ixC {c : Nat} {k : D} : ixK ra S k (.cell c) = (dgX ra k S (.cell c)).bind fun o => o.map fun r => (r, S) := rfl
@[simp] theorem s_ixdK {ks : List Key} {k : D} : ixK ra S k (.node (.dK ks) xs) = (dgX ra k S (.node (.dK ks) xs)).bind fun o => o.map fun r => (r, S) := rfl
@[simp] theorem s_ixdT {ks : List (List Key)} {k : D} : ixK ra S k (.node (.dT ks) xs) = (dgX ra k S (.node (.dT ks) xs)).bind fun o => o.map fun r => (r, S) := rfl
@[simp] theorem s_ixDK {ks : List Key} {k : D} : ixK ra S k (.dat (.dK ks ds)) = (dgX ra k S (.dat (.dK ks ds))).bind fun o => o.map fun r => (r, S) := rfl
@[simp] theorem s_ixDT {ks : List (List Key)} {k : D} : ixK ra S k (.dat (.dT ks ds)) = (dgX ra k S (.dat (.dT ks ds))).bind fun o => o.map fun r => (r, S) := rfl
@[simp] theorem s_dgC {c : Nat} {k : D} : dgX ra k S (.cell c) = (SV.dget S (.cell c) k).bind got2 := rfl
@[simp] theorem s_dgD {k : D} : dgX ra k S (.dat d) = (SV.dget S (.dat d) k).bind got2 := rfl
@[simp] theorem s_dgN {n : Nd} {k : D} : dgX ra k S (.node n xs) = (nidx n k).bind fun oj => match oj with
    | none => some none
    | some j => (xs[j]?).bind fun y => (kidR ra j y).map some := rfl
@[simp] theorem s_got0 : got2 none = some none := rfl
@[simp] theorem s_gotD : got2 (some (.dat d)) = some (some (.d d)) := rfl
@[simp] theorem s_gotC {c : Nat} : got2 (some (.cell c)) = some (some (.val (.cell c))) := rfl
@[simp] theorem s_dgetC {c : Nat} {k : D} : SV.dget ⟨ρ, μ⟩ (.cell c) k = (μ[c]?).bind fun x => match x with
    | .node n xs => nget n xs k
    | _ => none := by
  show (match μ[c]? with | some (.node n xs) => nget n xs k | _ => none) = _
  cases μ[c]? with
  | none => rfl
  | some x => cases x <;> rfl
@[simp] theorem s_storeC {c : Nat} {k : D} (h : ra.sv ⟨ρ, μ⟩ = some (.cell c)) : storeAt ra k x ⟨ρ, μ⟩ = (μ[c]?).bind fun y => match y with
    | .node n xs => (putNd n xs k x).map fun (z : Nd × List SV) => (⟨ρ, μ.set c (.node z.1 z.2)⟩ : Sto)
    | _ => none := by
  unfold storeAt
  rw [h]
  show (match μ[c]? with | some (.node n xs) => (putNd n xs k x).map fun (z : Nd × List SV) => Sto.cellp ⟨ρ, μ⟩ c (.node z.1 z.2) | _ => none) = _
  cases μ[c]? with
  | none => rfl
  | some x => cases x <;> rfl
end
section
variable {α β : Type} {S : Sto} {ds : List D} {z : Str} {i j : Int} {xs : List α} {ka : α → Prop}
@[simp] theorem s_pkr1 {r : R} {rs : List R} {k : List D → Prop} : Ob (peeksR (r :: rs) S) k = Ob (r.peek S) fun d => Ob (peeksR rs S) fun ds => k (d :: ds) := by
  show Ob ((r.peek S).bind fun d => (peeksR rs S).map fun ds => d :: ds) k = _
  cases r.peek S <;> cases peeksR rs S <;> simp
@[simp] theorem s_lenL : lenD [.lst ds] = some (.int ds.length) := rfl
@[simp] theorem s_lenT : lenD [.tup ds] = some (.int ds.length) := rfl
@[simp] theorem s_lenKT : lenD [.kt ds] = some (.int ds.length) := rfl
@[simp] theorem s_lenS : lenD [.str z] = if z.length ≤ 1000000 then some (.int z.length) else none := rfl
@[simp] theorem s_max2 : max2D [.int i, .int j] = some (.int (if j > i then j else i)) := rfl
@[simp] theorem s_min2 : min2D [.int i, .int j] = some (.int (if j < i then j else i)) := rfl
@[simp] theorem s_atI_map {f : α → β} : atI (xs.map f) i = (atI xs i).map f := by
  unfold atI; rw [List.length_map]
  cases ixN xs.length i with
  | none => rfl
  | some j => simp
theorem ixN_in {n : Nat} (h0 : 0 ≤ i) (h1 : i < n) : ixN n i = some i.toNat := by unfold ixN; rw [if_pos h0, if_pos h1]
theorem ob_at (h0 : 0 ≤ i) (h1 : i < xs.length) (h : ∀ x, x ∈ xs → ka x) : Ob (atI xs i) ka := by
  unfold atI
  rw [ixN_in h0 h1, Option.bind_some]
  have : i.toNat < xs.length := by omega
  rw [List.getElem?_eq_getElem this, ob_some]
  exact h _ (List.getElem_mem _)
theorem atI_in (h0 : 0 ≤ i) (h1 : i < xs.length) : atI xs i = xs[i.toNat]? := by
  unfold atI; rw [ixN_in h0 h1]; rfl
end
section
variable {x1 x2 x3 x4 y : SV}
noncomputable abbrev drawKs : List Key := [.inr "cells", .inr "at", .inr "left", .inr "used"]
@[simp] theorem dr_cells : nget (.dK drawKs) [x1, x2, x3, x4] (.str "cells") = some (some x1) := rfl
@[simp] theorem dr_at : nget (.dK drawKs) [x1, x2, x3, x4] (.str "at") = some (some x2) := rfl
@[simp] theorem dr_left : nget (.dK drawKs) [x1, x2, x3, x4] (.str "left") = some (some x3) := rfl
@[simp] theorem dr_used : nget (.dK drawKs) [x1, x2, x3, x4] (.str "used") = some (some x4) := rfl
@[simp] theorem pu_at : putNd (.dK drawKs) [x1, x2, x3, x4] (.str "at") y = some (.dK drawKs, [x1, y, x3, x4]) := rfl
@[simp] theorem pu_left : putNd (.dK drawKs) [x1, x2, x3, x4] (.str "left") y = some (.dK drawKs, [x1, x2, y, x4]) := rfl
@[simp] theorem pu_used : putNd (.dK drawKs) [x1, x2, x3, x4] (.str "used") y = some (.dK drawKs, [x1, x2, x3, y]) := rfl
end
section
variable {S : Sto} {Q : R → Sto → Prop} {X : Ex → Sto → Prop} {ρ : List (Option SV)} {μ : List SV} {x y : SV} {p : List Nat}
@[simp high] theorem wb_v0 : Wb (fVar 0) ⟨some x :: ρ, μ⟩ Q X = Q (.bor 0 []) ⟨some x :: ρ, μ⟩ := by unfold Wb fVar; simp
@[simp high] theorem sb_v0 : Sto.sub ⟨some x :: ρ, μ⟩ 0 [] = some x := by unfold Sto.sub; simp
@[simp high] theorem pt_v0 {o : Option SV} : Sto.put ⟨o :: ρ, μ⟩ 0 y = some ⟨some y :: ρ, μ⟩ := by rw [s_put]; simp
@[simp high] theorem wb_v1 {o0 : Option SV} : Wb (fVar 1) ⟨o0 :: some x :: ρ, μ⟩ Q X = Q (.bor 1 []) ⟨o0 :: some x :: ρ, μ⟩ := by unfold Wb fVar; simp
@[simp high] theorem sb_v1 {o0 : Option SV} : Sto.sub ⟨o0 :: some x :: ρ, μ⟩ 1 [] = some x := by unfold Sto.sub; simp
@[simp high] theorem pt_v1 {o0 : Option SV} {o : Option SV} : Sto.put ⟨o0 :: o :: ρ, μ⟩ 1 y = some ⟨o0 :: some y :: ρ, μ⟩ := by rw [s_put]; simp
@[simp high] theorem wb_v2 {o0 o1 : Option SV} : Wb (fVar 2) ⟨o0 :: o1 :: some x :: ρ, μ⟩ Q X = Q (.bor 2 []) ⟨o0 :: o1 :: some x :: ρ, μ⟩ := by unfold Wb fVar; simp
@[simp high] theorem sb_v2 {o0 o1 : Option SV} : Sto.sub ⟨o0 :: o1 :: some x :: ρ, μ⟩ 2 [] = some x := by unfold Sto.sub; simp
@[simp high] theorem pt_v2 {o0 o1 : Option SV} {o : Option SV} : Sto.put ⟨o0 :: o1 :: o :: ρ, μ⟩ 2 y = some ⟨o0 :: o1 :: some y :: ρ, μ⟩ := by rw [s_put]; simp
@[simp high] theorem wb_v3 {o0 o1 o2 : Option SV} : Wb (fVar 3) ⟨o0 :: o1 :: o2 :: some x :: ρ, μ⟩ Q X = Q (.bor 3 []) ⟨o0 :: o1 :: o2 :: some x :: ρ, μ⟩ := by unfold Wb fVar; simp
@[simp high] theorem sb_v3 {o0 o1 o2 : Option SV} : Sto.sub ⟨o0 :: o1 :: o2 :: some x :: ρ, μ⟩ 3 [] = some x := by unfold Sto.sub; simp
@[simp high] theorem pt_v3 {o0 o1 o2 : Option SV} {o : Option SV} : Sto.put ⟨o0 :: o1 :: o2 :: o :: ρ, μ⟩ 3 y = some ⟨o0 :: o1 :: o2 :: some y :: ρ, μ⟩ := by rw [s_put]; simp
@[simp high] theorem wb_v4 {o0 o1 o2 o3 : Option SV} : Wb (fVar 4) ⟨o0 :: o1 :: o2 :: o3 :: some x :: ρ, μ⟩ Q X = Q (.bor 4 []) ⟨o0 :: o1 :: o2 :: o3 :: some x :: ρ, μ⟩ := by unfold Wb fVar; simp
@[simp high] theorem sb_v4 {o0 o1 o2 o3 : Option SV} : Sto.sub ⟨o0 :: o1 :: o2 :: o3 :: some x :: ρ, μ⟩ 4 [] = some x := by unfold Sto.sub; simp
@[simp high] theorem pt_v4 {o0 o1 o2 o3 : Option SV} {o : Option SV} : Sto.put ⟨o0 :: o1 :: o2 :: o3 :: o :: ρ, μ⟩ 4 y = some ⟨o0 :: o1 :: o2 :: o3 :: some y :: ρ, μ⟩ := by rw [s_put]; simp
@[simp high] theorem wb_v5 {o0 o1 o2 o3 o4 : Option SV} : Wb (fVar 5) ⟨o0 :: o1 :: o2 :: o3 :: o4 :: some x :: ρ, μ⟩ Q X = Q (.bor 5 []) ⟨o0 :: o1 :: o2 :: o3 :: o4 :: some x :: ρ, μ⟩ := by unfold Wb fVar; simp
@[simp high] theorem sb_v5 {o0 o1 o2 o3 o4 : Option SV} : Sto.sub ⟨o0 :: o1 :: o2 :: o3 :: o4 :: some x :: ρ, μ⟩ 5 [] = some x := by unfold Sto.sub; simp
@[simp high] theorem pt_v5 {o0 o1 o2 o3 o4 : Option SV} {o : Option SV} : Sto.put ⟨o0 :: o1 :: o2 :: o3 :: o4 :: o :: ρ, μ⟩ 5 y = some ⟨o0 :: o1 :: o2 :: o3 :: o4 :: some y :: ρ, μ⟩ := by rw [s_put]; simp
@[simp high] theorem wb_v6 {o0 o1 o2 o3 o4 o5 : Option SV} : Wb (fVar 6) ⟨o0 :: o1 :: o2 :: o3 :: o4 :: o5 :: some x :: ρ, μ⟩ Q X = Q (.bor 6 []) ⟨o0 :: o1 :: o2 :: o3 :: o4 :: o5 :: some x :: ρ, μ⟩ := by unfold Wb fVar; simp
@[simp high] theorem sb_v6 {o0 o1 o2 o3 o4 o5 : Option SV} : Sto.sub ⟨o0 :: o1 :: o2 :: o3 :: o4 :: o5 :: some x :: ρ, μ⟩ 6 [] = some x := by unfold Sto.sub; simp
@[simp high] theorem pt_v6 {o0 o1 o2 o3 o4 o5 : Option SV} {o : Option SV} : Sto.put ⟨o0 :: o1 :: o2 :: o3 :: o4 :: o5 :: o :: ρ, μ⟩ 6 y = some ⟨o0 :: o1 :: o2 :: o3 :: o4 :: o5 :: some y :: ρ, μ⟩ := by rw [s_put]; simp
@[simp high] theorem wb_v7 {o0 o1 o2 o3 o4 o5 o6 : Option SV} : Wb (fVar 7) ⟨o0 :: o1 :: o2 :: o3 :: o4 :: o5 :: o6 :: some x :: ρ, μ⟩ Q X = Q (.bor 7 []) ⟨o0 :: o1 :: o2 :: o3 :: o4 :: o5 :: o6 :: some x :: ρ, μ⟩ := by unfold Wb fVar; simp
@[simp high] theorem sb_v7 {o0 o1 o2 o3 o4 o5 o6 : Option SV} : Sto.sub ⟨o0 :: o1 :: o2 :: o3 :: o4 :: o5 :: o6 :: some x :: ρ, μ⟩ 7 [] = some x := by unfold Sto.sub; simp
@[simp high] theorem pt_v7 {o0 o1 o2 o3 o4 o5 o6 : Option SV} {o : Option SV} : Sto.put ⟨o0 :: o1 :: o2 :: o3 :: o4 :: o5 :: o6 :: o :: ρ, μ⟩ 7 y = some ⟨o0 :: o1 :: o2 :: o3 :: o4 :: o5 :: o6 :: some y :: ρ, μ⟩ := by rw [s_put]; simp
@[simp high] theorem wb_v8 {o0 o1 o2 o3 o4 o5 o6 o7 : Option SV} : Wb (fVar 8) ⟨o0 :: o1 :: o2 :: o3 :: o4 :: o5 :: o6 :: o7 :: some x :: ρ, μ⟩ Q X = Q (.bor 8 []) ⟨o0 :: o1 :: o2 :: o3 :: o4 :: o5 :: o6 :: o7 :: some x :: ρ, μ⟩ := by unfold Wb fVar; simp
@[simp high] theorem sb_v8 {o0 o1 o2 o3 o4 o5 o6 o7 : Option SV} : Sto.sub ⟨o0 :: o1 :: o2 :: o3 :: o4 :: o5 :: o6 :: o7 :: some x :: ρ, μ⟩ 8 [] = some x := by unfold Sto.sub; simp
@[simp high] theorem pt_v8 {o0 o1 o2 o3 o4 o5 o6 o7 : Option SV} {o : Option SV} : Sto.put ⟨o0 :: o1 :: o2 :: o3 :: o4 :: o5 :: o6 :: o7 :: o :: ρ, μ⟩ 8 y = some ⟨o0 :: o1 :: o2 :: o3 :: o4 :: o5 :: o6 :: o7 :: some y :: ρ, μ⟩ := by rw [s_put]; simp
@[simp high] theorem wb_v9 {o0 o1 o2 o3 o4 o5 o6 o7 o8 : Option SV} : Wb (fVar 9) ⟨o0 :: o1 :: o2 :: o3 :: o4 :: o5 :: o6 :: o7 :: o8 :: some x :: ρ, μ⟩ Q X = Q (.bor 9 []) ⟨o0 :: o1 :: o2 :: o3 :: o4 :: o5 :: o6 :: o7 :: o8 :: some x :: ρ, μ⟩ := by unfold Wb fVar; simp
@[simp high] theorem sb_v9 {o0 o1 o2 o3 o4 o5 o6 o7 o8 : Option SV} : Sto.sub ⟨o0 :: o1 :: o2 :: o3 :: o4 :: o5 :: o6 :: o7 :: o8 :: some x :: ρ, μ⟩ 9 [] = some x := by unfold Sto.sub; simp
@[simp high] theorem pt_v9 {o0 o1 o2 o3 o4 o5 o6 o7 o8 : Option SV} {o : Option SV} : Sto.put ⟨o0 :: o1 :: o2 :: o3 :: o4 :: o5 :: o6 :: o7 :: o8 :: o :: ρ, μ⟩ 9 y = some ⟨o0 :: o1 :: o2 :: o3 :: o4 :: o5 :: o6 :: o7 :: o8 :: some y :: ρ, μ⟩ := by rw [s_put]; simp
@[simp high] theorem wb_v10 {o0 o1 o2 o3 o4 o5 o6 o7 o8 o9 : Option SV} : Wb (fVar 10) ⟨o0 :: o1 :: o2 :: o3 :: o4 :: o5 :: o6 :: o7 :: o8 :: o9 :: some x :: ρ, μ⟩ Q X = Q (.bor 10 []) ⟨o0 :: o1 :: o2 :: o3 :: o4 :: o5 :: o6 :: o7 :: o8 :: o9 :: some x :: ρ, μ⟩ := by unfold Wb fVar; simp
@[simp high] theorem sb_v10 {o0 o1 o2 o3 o4 o5 o6 o7 o8 o9 : Option SV} : Sto.sub ⟨o0 :: o1 :: o2 :: o3 :: o4 :: o5 :: o6 :: o7 :: o8 :: o9 :: some x :: ρ, μ⟩ 10 [] = some x := by unfold Sto.sub; simp
@[simp high] theorem pt_v10 {o0 o1 o2 o3 o4 o5 o6 o7 o8 o9 : Option SV} {o : Option SV} : Sto.put ⟨o0 :: o1 :: o2 :: o3 :: o4 :: o5 :: o6 :: o7 :: o8 :: o9 :: o :: ρ, μ⟩ 10 y = some ⟨o0 :: o1 :: o2 :: o3 :: o4 :: o5 :: o6 :: o7 :: o8 :: o9 :: some y :: ρ, μ⟩ := by rw [s_put]; simp
@[simp high] theorem wb_v11 {o0 o1 o2 o3 o4 o5 o6 o7 o8 o9 o10 : Option SV} : Wb (fVar 11) ⟨o0 :: o1 :: o2 :: o3 :: o4 :: o5 :: o6 :: o7 :: o8 :: o9 :: o10 :: some x :: ρ, μ⟩ Q X = Q (.bor 11 []) ⟨o0 :: o1 :: o2 :: o3 :: o4 :: o5 :: o6 :: o7 :: o8 :: o9 :: o10 :: some x :: ρ, μ⟩ := by unfold Wb fVar; simp
@[simp high] theorem sb_v11 {o0 o1 o2 o3 o4 o5 o6 o7 o8 o9 o10 : Option SV} : Sto.sub ⟨o0 :: o1 :: o2 :: o3 :: o4 :: o5 :: o6 :: o7 :: o8 :: o9 :: o10 :: some x :: ρ, μ⟩ 11 [] = some x := by unfold Sto.sub; simp
@[simp high] theorem pt_v11 {o0 o1 o2 o3 o4 o5 o6 o7 o8 o9 o10 : Option SV} {o : Option SV} : Sto.put ⟨o0 :: o1 :: o2 :: o3 :: o4 :: o5 :: o6 :: o7 :: o8 :: o9 :: o10 :: o :: ρ, μ⟩ 11 y = some ⟨o0 :: o1 :: o2 :: o3 :: o4 :: o5 :: o6 :: o7 :: o8 :: o9 :: o10 :: some y :: ρ, μ⟩ := by rw [s_put]; simp
@[simp high] theorem wb_v12 {o0 o1 o2 o3 o4 o5 o6 o7 o8 o9 o10 o11 : Option SV} : Wb (fVar 12) ⟨o0 :: o1 :: o2 :: o3 :: o4 :: o5 :: o6 :: o7 :: o8 :: o9 :: o10 :: o11 :: some x :: ρ, μ⟩ Q X = Q (.bor 12 []) ⟨o0 :: o1 :: o2 :: o3 :: o4 :: o5 :: o6 :: o7 :: o8 :: o9 :: o10 :: o11 :: some x :: ρ, μ⟩ := by unfold Wb fVar; simp
@[simp high] theorem sb_v12 {o0 o1 o2 o3 o4 o5 o6 o7 o8 o9 o10 o11 : Option SV} : Sto.sub ⟨o0 :: o1 :: o2 :: o3 :: o4 :: o5 :: o6 :: o7 :: o8 :: o9 :: o10 :: o11 :: some x :: ρ, μ⟩ 12 [] = some x := by unfold Sto.sub; simp
@[simp high] theorem pt_v12 {o0 o1 o2 o3 o4 o5 o6 o7 o8 o9 o10 o11 : Option SV} {o : Option SV} : Sto.put ⟨o0 :: o1 :: o2 :: o3 :: o4 :: o5 :: o6 :: o7 :: o8 :: o9 :: o10 :: o11 :: o :: ρ, μ⟩ 12 y = some ⟨o0 :: o1 :: o2 :: o3 :: o4 :: o5 :: o6 :: o7 :: o8 :: o9 :: o10 :: o11 :: some y :: ρ, μ⟩ := by rw [s_put]; simp
@[simp high] theorem wb_v13 {o0 o1 o2 o3 o4 o5 o6 o7 o8 o9 o10 o11 o12 : Option SV} : Wb (fVar 13) ⟨o0 :: o1 :: o2 :: o3 :: o4 :: o5 :: o6 :: o7 :: o8 :: o9 :: o10 :: o11 :: o12 :: some x :: ρ, μ⟩ Q X = Q (.bor 13 []) ⟨o0 :: o1 :: o2 :: o3 :: o4 :: o5 :: o6 :: o7 :: o8 :: o9 :: o10 :: o11 :: o12 :: some x :: ρ, μ⟩ := by unfold Wb fVar; simp
@[simp high] theorem sb_v13 {o0 o1 o2 o3 o4 o5 o6 o7 o8 o9 o10 o11 o12 : Option SV} : Sto.sub ⟨o0 :: o1 :: o2 :: o3 :: o4 :: o5 :: o6 :: o7 :: o8 :: o9 :: o10 :: o11 :: o12 :: some x :: ρ, μ⟩ 13 [] = some x := by unfold Sto.sub; simp
@[simp high] theorem pt_v13 {o0 o1 o2 o3 o4 o5 o6 o7 o8 o9 o10 o11 o12 : Option SV} {o : Option SV} : Sto.put ⟨o0 :: o1 :: o2 :: o3 :: o4 :: o5 :: o6 :: o7 :: o8 :: o9 :: o10 :: o11 :: o12 :: o :: ρ, μ⟩ 13 y = some ⟨o0 :: o1 :: o2 :: o3 :: o4 :: o5 :: o6 :: o7 :: o8 :: o9 :: o10 :: o11 :: o12 :: some y :: ρ, μ⟩ := by rw [s_put]; simp
@[simp high] theorem wb_v14 {o0 o1 o2 o3 o4 o5 o6 o7 o8 o9 o10 o11 o12 o13 : Option SV} : Wb (fVar 14) ⟨o0 :: o1 :: o2 :: o3 :: o4 :: o5 :: o6 :: o7 :: o8 :: o9 :: o10 :: o11 :: o12 :: o13 :: some x :: ρ, μ⟩ Q X = Q (.bor 14 []) ⟨o0 :: o1 :: o2 :: o3 :: o4 :: o5 :: o6 :: o7 :: o8 :: o9 :: o10 :: o11 :: o12 :: o13 :: some x :: ρ, μ⟩ := by unfold Wb fVar; simp
@[simp high] theorem sb_v14 {o0 o1 o2 o3 o4 o5 o6 o7 o8 o9 o10 o11 o12 o13 : Option SV} : Sto.sub ⟨o0 :: o1 :: o2 :: o3 :: o4 :: o5 :: o6 :: o7 :: o8 :: o9 :: o10 :: o11 :: o12 :: o13 :: some x :: ρ, μ⟩ 14 [] = some x := by unfold Sto.sub; simp
@[simp high] theorem pt_v14 {o0 o1 o2 o3 o4 o5 o6 o7 o8 o9 o10 o11 o12 o13 : Option SV} {o : Option SV} : Sto.put ⟨o0 :: o1 :: o2 :: o3 :: o4 :: o5 :: o6 :: o7 :: o8 :: o9 :: o10 :: o11 :: o12 :: o13 :: o :: ρ, μ⟩ 14 y = some ⟨o0 :: o1 :: o2 :: o3 :: o4 :: o5 :: o6 :: o7 :: o8 :: o9 :: o10 :: o11 :: o12 :: o13 :: some y :: ρ, μ⟩ := by rw [s_put]; simp
@[simp high] theorem wb_v15 {o0 o1 o2 o3 o4 o5 o6 o7 o8 o9 o10 o11 o12 o13 o14 : Option SV} : Wb (fVar 15) ⟨o0 :: o1 :: o2 :: o3 :: o4 :: o5 :: o6 :: o7 :: o8 :: o9 :: o10 :: o11 :: o12 :: o13 :: o14 :: some x :: ρ, μ⟩ Q X = Q (.bor 15 []) ⟨o0 :: o1 :: o2 :: o3 :: o4 :: o5 :: o6 :: o7 :: o8 :: o9 :: o10 :: o11 :: o12 :: o13 :: o14 :: some x :: ρ, μ⟩ := by unfold Wb fVar; simp
@[simp high] theorem sb_v15 {o0 o1 o2 o3 o4 o5 o6 o7 o8 o9 o10 o11 o12 o13 o14 : Option SV} : Sto.sub ⟨o0 :: o1 :: o2 :: o3 :: o4 :: o5 :: o6 :: o7 :: o8 :: o9 :: o10 :: o11 :: o12 :: o13 :: o14 :: some x :: ρ, μ⟩ 15 [] = some x := by unfold Sto.sub; simp
@[simp high] theorem pt_v15 {o0 o1 o2 o3 o4 o5 o6 o7 o8 o9 o10 o11 o12 o13 o14 : Option SV} {o : Option SV} : Sto.put ⟨o0 :: o1 :: o2 :: o3 :: o4 :: o5 :: o6 :: o7 :: o8 :: o9 :: o10 :: o11 :: o12 :: o13 :: o14 :: o :: ρ, μ⟩ 15 y = some ⟨o0 :: o1 :: o2 :: o3 :: o4 :: o5 :: o6 :: o7 :: o8 :: o9 :: o10 :: o11 :: o12 :: o13 :: o14 :: some y :: ρ, μ⟩ := by rw [s_put]; simp
end
end L3
namespace L3
open PySem PySem.Spec PyProof.Rows L2
mutual
noncomputable def pyOf : D → PyData
  | .non => .none
  | .bl b => .bool b
  | .int i => .int i
  | .str x => .str x
  | .lst xs => .list (pysOf xs)
  | .tup xs => .tuple (pysOf xs)
  | .kl xs => .list (pysOf xs)
  | .kt xs => .tuple (pysOf xs)
  | .dK _ _ => .none
  | .dT _ _ => .none
  | .wK _ _ => .none
  | .wT _ _ => .none
  | .fn _ => .none
  | .exc _ _ _ => .none
noncomputable def pysOf : List D → List PyData
  | [] => []
  | d :: ds => pyOf d :: pysOf ds
end
mutual
noncomputable def D.sm : D → Prop
  | .non => True
  | .bl _ => True
  | .int i => i.natAbs < 10 ^ 12
  | .str x => PyData.canLay0 (.str x) = true
  | .lst xs => smL xs
  | .tup xs => smL xs
  | .kl xs => smL xs
  | .kt xs => smL xs
  | .dK _ _ => False
  | .dT _ _ => False
  | .wK _ _ => False
  | .wT _ _ => False
  | .fn _ => False
  | .exc _ _ _ => False
noncomputable def smL : List D → Prop
  | [] => True
  | d :: ds => d.sm ∧ smL ds
end
mutual
noncomputable def D.wt : D → Nat
  | .int _ => 41
  | .str x => x.length
  | .lst xs => wtL xs
  | .tup xs => wtL xs
  | .kl xs => wtL xs
  | .kt xs => wtL xs
  | .non => 0
  | .bl _ => 0
  | .dK _ _ => 0
  | .dT _ _ => 0
  | .wK _ _ => 0
  | .wT _ _ => 0
  | .fn _ => 0
  | .exc _ _ _ => 0
noncomputable def wtL : List D → Nat
  | [] => 0
  | d :: ds => d.wt + 1 + wtL ds
end
mutual
noncomputable def D.dp : D → Nat
  | .lst xs => dpL xs + 1
  | .tup xs => dpL xs + 1
  | .kl xs => dpL xs + 1
  | .kt xs => dpL xs + 1
  | .int _ => 0
  | .str x => 0
  | .non => 0
  | .bl _ => 0
  | .dK _ _ => 0
  | .dT _ _ => 0
  | .wK _ _ => 0
  | .wT _ _ => 0
  | .fn _ => 0
  | .exc _ _ _ => 0
noncomputable def dpL : List D → Nat
  | [] => 0
  | d :: ds => max d.dp (dpL ds)
end
structure SmP (d : D) (p : PyData) : Prop where
  py : d.py = some p
  lay : p.canLay0 = true
  sh : p.showable = true
  nd : p.hasDict = false
  shrt : p.intsShort 13 = true
  wt : p.weight ≤ d.wt
  dp : p.depth = d.dp
structure SmPs (ds : List D) (ps : List PyData) : Prop where
  py : pys ds = some ps
  lay : PyData.canLayAll0 ps = true
  sh : PyData.showableAll ps = true
  nd : PyData.hasDictAll ps = false
  shrt : PyData.intsShortAll 13 ps = true
  wt : PyData.weightAll ps ≤ wtL ds
  dp : PyData.depthAll ps = dpL ds
theorem log2_lt {n : Nat} (h : n < 10 ^ 12) : n.log2 < 40 := by
  by_cases h0 : n = 0
  · subst h0; decide
  · exact (Nat.log2_lt h0).mpr (Nat.lt_of_lt_of_le h (by decide))
mutual
theorem sm_py : ∀ {d : D}, d.sm → SmP d (pyOf d)
  | .non, _ => ⟨by simp [D.py, pyOf], by simp [pyOf, PyData.canLay0], by simp [pyOf, PyData.showable], by simp [pyOf, PyData.hasDict], by simp [pyOf, PyData.intsShort], by simp [pyOf, PyData.weight], by simp [pyOf, PyData.depth, D.dp]⟩
  | .bl b, _ => ⟨by simp [D.py, pyOf], by simp [pyOf, PyData.canLay0], by simp [pyOf, PyData.showable], by simp [pyOf, PyData.hasDict], by simp [pyOf, PyData.intsShort], by simp [pyOf, PyData.weight], by simp [pyOf, PyData.depth, D.dp]⟩
  | .int i, h => by
    have h : i.natAbs < 10 ^ 12 := h
    have hl := log2_lt h
    refine ⟨by simp [D.py, pyOf], by simp [pyOf, PyData.canLay0], ?_, by simp [pyOf, PyData.hasDict], ?_, ?_, by simp [pyOf, PyData.depth, D.dp]⟩
    · simp only [pyOf, PyData.showable, decide_eq_true_eq]; omega
    · simp only [pyOf, PyData.intsShort, decide_eq_true_eq]; exact PyData.shown_int_le h
    · simp only [pyOf, PyData.weight, D.wt]; split <;> omega
  | .str x, h => by
    have h : PyData.canLay0 (.str x) = true := h
    refine ⟨by simp [D.py, pyOf], h, by simp [pyOf, PyData.showable], by simp [pyOf, PyData.hasDict], by simp [pyOf, PyData.intsShort], ?_, by simp [pyOf, PyData.depth, D.dp]⟩
    simp only [pyOf, PyData.weight, D.wt]; exact Nat.le_refl _
  | .lst xs, h => by
    have q := smL_pys (show smL xs from h)
    refine ⟨?_, ?_, ?_, ?_, ?_, ?_, ?_⟩
    · unfold D.py; rw [q.py]; simp [pyOf]
    · simp only [pyOf, PyData.canLay0]; exact q.lay
    · simp only [pyOf, PyData.showable]; exact q.sh
    · simp only [pyOf, PyData.hasDict]; exact q.nd
    · simp only [pyOf, PyData.intsShort]; exact q.shrt
    · simp only [pyOf, PyData.weight, D.wt]; exact q.wt
    · simp only [pyOf, PyData.depth, D.dp, q.dp]
  | .tup xs, h => by
    have q := smL_pys (show smL xs from h)
    refine ⟨?_, ?_, ?_, ?_, ?_, ?_, ?_⟩
    · unfold D.py; rw [q.py]; simp [pyOf]
    · simp only [pyOf, PyData.canLay0]; exact q.lay
    · simp only [pyOf, PyData.showable]; exact q.sh
    · simp only [pyOf, PyData.hasDict]; exact q.nd
    · simp only [pyOf, PyData.intsShort]; exact q.shrt
    · simp only [pyOf, PyData.weight, D.wt]; exact q.wt
    · simp only [pyOf, PyData.depth, D.dp, q.dp]
  | .kl xs, h => by
    have q := smL_pys (show smL xs from h)
    refine ⟨?_, ?_, ?_, ?_, ?_, ?_, ?_⟩
    · unfold D.py; rw [q.py]; simp [pyOf]
    · simp only [pyOf, PyData.canLay0]; exact q.lay
    · simp only [pyOf, PyData.showable]; exact q.sh
    · simp only [pyOf, PyData.hasDict]; exact q.nd
    · simp only [pyOf, PyData.intsShort]; exact q.shrt
    · simp only [pyOf, PyData.weight, D.wt]; exact q.wt
    · simp only [pyOf, PyData.depth, D.dp, q.dp]
  | .kt xs, h => by
    have q := smL_pys (show smL xs from h)
    refine ⟨?_, ?_, ?_, ?_, ?_, ?_, ?_⟩
    · unfold D.py; rw [q.py]; simp [pyOf]
    · simp only [pyOf, PyData.canLay0]; exact q.lay
    · simp only [pyOf, PyData.showable]; exact q.sh
    · simp only [pyOf, PyData.hasDict]; exact q.nd
    · simp only [pyOf, PyData.intsShort]; exact q.shrt
    · simp only [pyOf, PyData.weight, D.wt]; exact q.wt
    · simp only [pyOf, PyData.depth, D.dp, q.dp]
  | .dK _ _, h => absurd h (by simp [D.sm])
  | .dT _ _, h => absurd h (by simp [D.sm])
  | .wK _ _, h => absurd h (by simp [D.sm])
  | .wT _ _, h => absurd h (by simp [D.sm])
  | .fn _, h => absurd h (by simp [D.sm])
  | .exc _ _ _, h => absurd h (by simp [D.sm])
theorem smL_pys : ∀ {ds : List D}, smL ds → SmPs ds (pysOf ds)
  | [], _ => ⟨by simp [pys, pysOf], by simp [pysOf, PyData.canLayAll0], by simp [pysOf, PyData.showableAll], by simp [pysOf, PyData.hasDictAll], by simp [pysOf, PyData.intsShortAll], by simp [pysOf, PyData.weightAll], by simp [pysOf, PyData.depthAll, dpL]⟩
  | d :: ds, h => by
    have h : d.sm ∧ smL ds := h
    have q := sm_py h.1
    have r := smL_pys h.2
    refine ⟨?_, ?_, ?_, ?_, ?_, ?_, ?_⟩
    · unfold pys; rw [q.py, r.py]; simp [pysOf]
    · simp only [pysOf, PyData.canLayAll0, q.lay, r.lay, Bool.and_self]
    · simp only [pysOf, PyData.showableAll, q.sh, r.sh, Bool.and_self]
    · simp only [pysOf, PyData.hasDictAll, q.nd, r.nd, Bool.or_self]
    · simp only [pysOf, PyData.intsShortAll, q.shrt, r.shrt, Bool.and_self]
    · simp only [pysOf, PyData.weightAll, wtL]; have := q.wt; have := r.wt; omega
    · simp only [pysOf, PyData.depthAll, dpL, q.dp, r.dp]
end
theorem smL_iff {ds : List D} : smL ds ↔ ∀ d ∈ ds, d.sm := by
  induction ds with
  | nil => simp [smL]
  | cons d ds ih => simp [smL, ih]
theorem dpL_le {n : Nat} {ds : List D} (h : ∀ d ∈ ds, d.dp ≤ n) : dpL ds ≤ n := by
  induction ds with
  | nil => simp [dpL]
  | cons d ds ih =>
    have h1 := h d (by simp)
    have h2 := ih fun x hx => h x (by simp [hx])
    simp only [dpL]; omega
theorem SmP.shaped {d : D} {p : PyData} (q : SmP d p) (hd : d.dp ≤ 64) : SeqAt.shaped p = true := by
  have hd2 : p.depth ≤ 64 := by rw [q.dp]; exact hd
  unfold SeqAt.shaped; simp [q.lay, hd2]
theorem eqP_sm {a b : D} (ha : a.sm) (hb : b.sm) (h1 : a.dp ≤ 64) (h2 : b.dp ≤ 64) : eqP a b = some (PyData.eqv (pyOf a) (pyOf b)) := by
  have p := sm_py ha
  have q := sm_py hb
  unfold eqP
  rw [p.py, q.py]
  dsimp only
  rw [if_pos ⟨p.shaped h1, q.shaped h2⟩]
noncomputable def eqT (a b : D) : Bool := match a, b with
  | .str x, .str y => decide (x = y)
  | .int i, .int j => decide (i = j)
  | a, b => PyData.eqv (pyOf a) (pyOf b)
theorem eqD_sm {a b : D} (ha : a.sm) (hb : b.sm) (h1 : a.dp ≤ 64) (h2 : b.dp ≤ 64) : eqD a b = some (eqT a b) := by
  unfold eqD eqT
  split
  · rfl
  · rfl
  · rename_i n1 n2
    rw [eqP_sm ha hb h1 h2]
    all_goals (cases a <;> cases b <;> first | rfl | exact absurd rfl (n1 _ _ rfl) | exact absurd rfl (n2 _ _ rfl))
theorem eqT_self {a : D} (ha : a.sm) : eqT a a = true := by
  have h := SeqAt.eqv_refl (pyOf a) (sm_py ha).lay
  cases a <;> first | exact h | simp [eqT]
@[simp] theorem eqD_str {x y : Str} : eqD (.str x) (.str y) = some (decide (x = y)) := rfl
@[simp] theorem eqD_int {x y : Int} : eqD (.int x) (.int y) = some (decide (x = y)) := rfl
end L3
namespace L3
open PySem PySem.Spec PyProof.Rows L2
section
variable {ρ : List (Option SV)} {μ : List SV} {i : Nat} {d : D} {ds : List D} {t : Tg} {ts : List Tg} {vs : List Nat} {v : Nat} {S : Sto} {ra : R} {kk : R → Sto → Prop}
@[simp] theorem tg_nm : tgS (.nm i) d ρ = if i < ρ.length then some (ρ.set i (some (.dat d))) else none := by simp [tgS]
@[simp] theorem tg_tp : tgS (.tp ts) (.tup ds) ρ = tgsS ts ds ρ := by simp [tgS]
@[simp] theorem tg_kt : tgS (.tp ts) (.kt ds) ρ = tgsS ts ds ρ := by simp [tgS]
@[simp] theorem tgs_nil : tgsS [] [] ρ = some ρ := by simp [tgsS]
@[simp] theorem tgs_cons {k : List (Option SV) → Prop} : Ob (tgsS (t :: ts) (d :: ds) ρ) k = Ob (tgS t d ρ) fun ρ1 => Ob (tgsS ts ds ρ1) k := by
  conv => lhs; rw [tgsS]
  cases tgS t d ρ <;> simp
@[simp] theorem wipe_eq : Sto.wipe ⟨ρ, μ⟩ vs = ⟨wipeL ρ vs, μ⟩ := rfl
@[simp] theorem wipe_nil : wipeL ρ [] = ρ := rfl
@[simp] theorem wipe_cons : wipeL ρ (v :: vs) = (wipeL ρ vs).set v none := rfl
@[simp] theorem s_range1 {j : Int} : range1 [.int j] = if small62 j then some (rangeL 0 j.toNat 1) else none := rfl
@[simp] theorem s_range2 {i j : Int} : range2 [.int i, .int j] = if small62 i ∧ small62 j then some (rangeL i (j - i).toNat 1) else none := rfl
@[simp] theorem s_range3 {i j : Int} : range3 [.int i, .int j, .int (-1)] = if small62 i ∧ small62 j then some (rangeL i (i - j).toNat (-1)) else none := by
  show (if small62 i ∧ small62 j ∧ ((-1 : Int) = -1 ∨ (-1 : Int) = 1 ∨ (-1 : Int) = 2) then some (rangeL i (steps3 i j (-1)) (-1)) else none) = _
  simp [steps3]
theorem small62_of {i : Int} (h1 : -(2 ^ 62) ≤ i) (h2 : i < 2 ^ 62) : small62 i := ⟨h1, h2⟩
noncomputable def slK (ra : R) (S : Sto) (lo hi : Option Int) : SV → Option (R × Sto)
  | .dat (.str x) => if x.length ≤ 1000000 then some (.d (.str (L2.cutS x lo hi)), S) else none
  | _ => match ra.its S with
    | some (false, ds) => some (.val (.own ((cutD ds lo hi).map SV.dat)), S)
    | some (true, ds) => some (.d (.tup (cutD ds lo hi)), S)
    | none => none
theorem gSl_eq {lo hi : Option Int} : gSl ra lo hi S = (ra.sv S).bind fun x => slK ra S lo hi x := by
  unfold gSl
  cases ex : ra.sv S with
  | none => simp [R.its, ex]
  | some x =>
    simp only [Option.bind_some]
    cases x with
    | cell c => simp [R.its, ex, slK]
    | node n xs => cases n <;> simp [ex, slK] <;> (split <;> simp_all)
    | dat d => cases d <;> simp [R.its, ex, slK]
@[simp] theorem s_gSl {lo hi : Option Int} : Gb (gSl ra lo hi S) kk = Ob (ra.sv S) fun x => Gb (slK ra S lo hi x) kk := by rw [gSl_eq]; simp
@[simp] theorem s_slT {lo hi : Option Int} : slK ra S lo hi (.dat (.tup ds)) = match ra.its S with
    | some (false, ds) => some (.val (.own ((cutD ds lo hi).map SV.dat)), S)
    | some (true, ds) => some (.d (.tup (cutD ds lo hi)), S)
    | none => none := rfl
@[simp] theorem s_slL {lo hi : Option Int} : slK ra S lo hi (.dat (.lst ds)) = match ra.its S with
    | some (false, ds) => some (.val (.own ((cutD ds lo hi).map SV.dat)), S)
    | some (true, ds) => some (.d (.tup (cutD ds lo hi)), S)
    | none => none := rfl
end
section
variable {tg : Tg} {ft : FT} {fe : FE} {vs : List Nat} {ds : List D} {S : Sto} {Q : R → Sto → Prop}
end
section
variable {α : Type} {x y z u : α} {r : List α}
@[simp] theorem at0 : atI (x :: r) 0 = some x := by rw [atI_in (by omega) (by simp only [List.length_cons]; omega)]; rfl
@[simp] theorem at1 : atI (x :: y :: r) 1 = some y := by rw [atI_in (by omega) (by simp only [List.length_cons]; omega)]; rfl
@[simp] theorem at2 : atI (x :: y :: z :: r) 2 = some z := by rw [atI_in (by omega) (by simp only [List.length_cons]; omega)]; rfl
@[simp] theorem at3 : atI (x :: y :: z :: u :: r) 3 = some u := by rw [atI_in (by omega) (by simp only [List.length_cons]; omega)]; rfl
end
noncomputable def add2D : D → D → Option D
  | .int a, .int b => some (.int (a + b))
  | .str x, .str y => if x.length + y.length ≤ 1000000 then some (.str (x ++ y)) else none
  | _, _ => none
@[simp] theorem s_gAdd2 {ra rb : R} {S : Sto} {kk : R → Sto → Prop} : Gb (gAdd2 ra rb S) kk = Ob (ra.peek S) fun x => Ob (rb.peek S) fun y => Ob (add2D x y) fun z => kk (.d z) S := by
  unfold gAdd2 g2
  cases ra.peek S with
  | none => simp
  | some x =>
    cases rb.peek S with
    | none => simp
    | some y =>
      cases x <;> cases y <;> simp [add2D, dI, iAdd, sAdd]
@[simp] theorem s_add2I {a b : Int} : add2D (.int a) (.int b) = some (.int (a + b)) := rfl
@[simp] theorem s_add2S {x y : Str} : add2D (.str x) (.str y) = if x.length + y.length ≤ 1000000 then some (.str (x ++ y)) else none := rfl
@[simp] theorem peeks_mapf {α : Type} {f : α → D} {l : List α} : peeks (l.map fun t => SV.dat (f t)) = some (l.map f) := by
  have := s_pks_dat (ds := l.map f); rwa [List.map_map] at this
@[simp] theorem dats_mapf {α : Type} {f : α → D} {l : List α} : dats (l.map fun t => SV.dat (f t)) = some (l.map f) := by
  have := s_dats_dat (ds := l.map f); rwa [List.map_map] at this
@[simp] theorem peeks_comp {α : Type} {f : α → D} {l : List α} : peeks (l.map (SV.dat ∘ f)) = some (l.map f) := peeks_mapf
@[simp] theorem dats_comp {α : Type} {f : α → D} {l : List α} : dats (l.map (SV.dat ∘ f)) = some (l.map f) := dats_mapf
@[simp] theorem peeks_app : ∀ {a b : List SV}, peeks (a ++ b) = (peeks a).bind fun x => (peeks b).map fun y => x ++ y
  | [], b => by cases e : peeks b <;> simp [e]
  | x :: a, b => by
    rw [List.cons_append, s_pks1, s_pks1, peeks_app]
    cases x.peek <;> cases peeks a <;> cases peeks b <;> simp
@[simp] theorem dats_app : ∀ {a b : List SV}, dats (a ++ b) = (dats a).bind fun x => (dats b).map fun y => x ++ y
  | [], b => by cases e : dats b <;> simp [e]
  | .dat d :: a, b => by
    rw [List.cons_append, s_dats1, s_dats1, dats_app]
    cases dats a <;> cases dats b <;> simp
  | .node _ _ :: a, b => rfl
  | .cell _ :: a, b => rfl
@[simp] theorem strsD_map : ∀ {ys : List Str}, strsD (ys.map D.str) = some ys
  | [] => rfl
  | y :: ys => by
    show (strsD (ys.map D.str)).map (fun xs => y :: xs) = _
    rw [strsD_map]; rfl
@[simp] theorem joinL {x : Str} {ds : List D} : dJoin (.str x) (.lst ds) = (strsD ds).bind fun ys => if (ys.map (·.length)).sum + ys.length * x.length ≤ 16777216 then some (.str (Txt.join x ys)) else none := rfl
@[simp] theorem splitS {x y : Str} {S : Sto} : gSplit (.val (.dat (.str x))) (.val (.dat (.str y))) S = if (y.length == 0) = false ∧ x.length ≤ 1000000 then some (.val (.own ((Txt.split x y).map fun z => .dat (.str z))), S) else none := rfl
@[simp] theorem sum_ints {xs : List Int} : sumD [.lst (xs.map D.int)] = some (.int xs.sum) := by
  have : intsD (xs.map D.int) = some xs := by
    induction xs with
    | nil => rfl
    | cons x xs ih => show (intsD (xs.map D.int)).map (fun is => x :: is) = _; rw [ih]; rfl
  show (intsD (xs.map D.int)).map _ = _
  rw [this]; rfl
@[simp] theorem sum_mapf {α : Type} {f : α → Int} {l : List α} : sumD [.lst (l.map fun t => .int (f t))] = some (.int (l.map f).sum) := by
  have := sum_ints (xs := l.map f); rwa [List.map_map] at this
section
variable {ρ : List (Option SV)} {μ : List SV} {i j n : Nat} {d k : D} {x : SV} {xs : List SV} {ra : R} {c : Nat}
@[simp] theorem kidR_dat : kidR ra j (.dat d) = some (.d d) := rfl
@[simp] theorem kidR_cell : kidR ra j (.cell c) = some (.val (.cell c)) := rfl
@[simp] theorem kidR_bor {p : List Nat} {n : Nd} : kidR (.bor i p) j (.node n xs) = some (.bor i (p ++ [j])) := rfl
@[simp] theorem ixN0 : ixN (n + 1) 0 = some 0 := by rw [ixN_in (by omega) (by omega)]; rfl
@[simp] theorem ixN1 : ixN (n + 2) 1 = some 1 := by rw [ixN_in (by omega) (by omega)]; rfl
@[simp] theorem ixN2 : ixN (n + 3) 2 = some 2 := by rw [ixN_in (by omega) (by omega)]; rfl
@[simp] theorem pushAt0 : pushAt (.bor i []) x ⟨ρ, μ⟩ = (ρ[i]?).bind fun o => o.bind fun y => match y with
    | .node .lst xs => if xs.length < 1000000 then some (⟨ρ.set i (some (.own (xs ++ [x]))), μ⟩ : Sto) else none
    | _ => none := by
  unfold pushAt
  dsimp only
  rw [s_sub]
  cases e : ρ[i]? with
  | none => rfl
  | some o =>
    cases o with
    | none => rfl
    | some y =>
      simp only [Option.bind_some, s_sub0]
      cases y with
      | node n xs => cases n <;> simp [Sto.putp, e]
      | _ => rfl
@[simp] theorem storeAt0 : storeAt (.bor i []) k x ⟨ρ, μ⟩ = (ρ[i]?).bind fun o => o.bind fun y => match y with
    | .cell c => (μ[c]?).bind fun y => match y with
      | .node n xs => (putNd n xs k x).map fun (z : Nd × List SV) => (⟨ρ, μ.set c (.node z.1 z.2)⟩ : Sto)
      | _ => none
    | .node n xs => (putNd n xs k x).map fun (z : Nd × List SV) => (⟨ρ.set i (some (.node z.1 z.2)), μ⟩ : Sto)
    | _ => none := by
  unfold storeAt
  rw [s_sv_bor, s_sub]
  cases e : ρ[i]? with
  | none => rfl
  | some o =>
    cases o with
    | none => rfl
    | some y =>
      simp only [Option.bind_some, s_sub0]
      cases y with
      | node n xs =>
        dsimp only
        cases putNd n xs k x <;> simp [Sto.putp, e]
      | cell c =>
        dsimp only
        cases e2 : μ[c]? with
        | none => rfl
        | some y => cases y <;> rfl
      | dat d => rfl
@[simp] theorem putNd_lst {a : Int} : putNd .lst xs (.int a) x = (ixN xs.length a).map fun j => (.lst, xs.set j x) := rfl
end
@[simp] theorem s_tupOf {r : R} {S : Sto} {kk : R → Sto → Prop} : Gb (gTupOf [r] S) kk = Gb (r.its S) fun _ ds => kk (.d (.tup ds)) S := by
  show Gb (match r.its S with | some (_, ds) => some (.d (.tup ds), S) | none => none) kk = _
  cases e : r.its S with
  | none => simp
  | some z => obtain ⟨t, ds⟩ := z; simp
@[simp] theorem s_lstOf {r : R} {S : Sto} {kk : R → Sto → Prop} : Gb (gLstOf [r] S) kk = Gb (r.its S) fun _ ds => kk (.val (.own (ds.map SV.dat))) S := by
  show Gb (match r.its S with | some (_, ds) => some (.val (.own (ds.map SV.dat)), S) | none => none) kk = _
  cases e : r.its S with
  | none => simp
  | some z => obtain ⟨t, ds⟩ := z; simp
theorem ct_ind {tg : Tg} {fe : FE} {vs : List Nat} {ds : List D} {ρ : List (Option SV)} {μ : List SV} {Q : R → Sto → Prop} (I : Nat → List SV → List SV → Prop) (hl : ds.length ≤ 1000000) (h0 : I 0 [] μ)
    (step : ∀ i d acc μ, ds[i]? = some d → I i acc μ → Ob (tgS tg d (wipeL ρ vs)) fun ρ1 => Wb fe ⟨ρ1, μ⟩ (fun y S2 => Gb (y.kid S2) fun x S3 => I (i + 1) (acc ++ [x]) S3.μ ∧ wipeL S3.ρ vs = wipeL ρ vs) fun _ _ => False)
    (hend : ∀ acc μ', I ds.length acc μ' → Q (.val (.own acc)) ⟨wipeL ρ vs, μ'⟩) : fCompTail tg fYes fe vs ds ⟨ρ, μ⟩ Q := by
  unfold fCompTail
  refine compF_ind (fun i acc S => I i acc S.μ ∧ S.ρ = wipeL ρ vs ∧ acc.length ≤ i) ⟨h0, rfl, by simp⟩ (fun i d acc S hd hI => ?_) (fun acc S hI => ?_)
  · obtain ⟨ρ0, μ0⟩ := S
    obtain ⟨h1, e, h3⟩ := hI
    have e : ρ0 = wipeL ρ vs := e
    subst e
    obtain ⟨ρ1, e1, q⟩ := step i d acc μ0 hd h1
    have hi := (List.getElem?_eq_some_iff.mp hd).1
    refine ⟨ρ1, e1, ?_⟩
    simp only [wb_yes, br_t]
    refine wb_mono q (fun y S2 hy => ?_) fun _ _ h => h
    obtain ⟨x, S3, e3, h4, h5⟩ := hy
    exact ⟨x, S3, e3, by omega, h4, h5, by rw [List.length_append]; simp; omega⟩
  · obtain ⟨ρ0, μ0⟩ := S
    obtain ⟨h1, e, _⟩ := hI
    have e : ρ0 = wipeL ρ vs := e
    subst e
    exact hend acc μ0 h1
theorem ixN_neg1 {n : Nat} : ixN (n + 1) (-1) = some n := by
  unfold ixN; rw [if_neg (by omega), if_pos (by omega)]; congr 1; omega
theorem ixN_neg2 {n : Nat} : ixN (n + 2) (-2) = some n := by
  unfold ixN; rw [if_neg (by omega), if_pos (by omega)]; congr 1; omega
theorem strs_sm {ys : List Str} (h : ∀ y ∈ ys, PyData.canLay0 (.str y) = true) : smL (ys.map D.str) := smL_iff.mpr fun d hd => by
  obtain ⟨y, hy, rfl⟩ := List.mem_map.mp hd
  exact h y hy
theorem strs_dp {ys : List Str} : dpL (ys.map D.str) ≤ 0 := dpL_le fun d hd => by
  obtain ⟨y, hy, rfl⟩ := List.mem_map.mp hd
  simp [D.dp]
@[simp] theorem range_len {lo c : Int} {n : Nat} : (rangeL lo n c).length = n := by unfold rangeL; simp
end L3
namespace L3
open PySem PySem.Spec PySem.SeqAt PyProof.Rows PySem.Calls
noncomputable def rkA : PyData → PyData → Bool
  | .tuple (.int i :: xs), .tuple (.int j :: ys) => decide (i ≠ j) || PySem.W.alikeAll xs ys
  | _, _ => false
section
variable {prog : Program} {w : World} {A : Around} {s : Shared}
end
end L3
namespace L3
open PySem PySem.Spec PyProof.Rows L2
section
variable {S S' : Sto} {Q : R → Sto → Prop} {QI : List D → Sto → Prop} {X : Ex → Sto → Prop} {P : SO → Prop} {fe fo : FE} {fA : FA} {i j : Nat} {p : List Nat} {d : D} {ds es : List D} {ρ : List (Option SV)} {μ : List SV} {ra rb r : R} {kk : R → Sto → Prop} {x : SV} {xs : List SV} {n : Nd}
@[simp] theorem wb_mov : Wb (fMov i) ⟨ρ, μ⟩ Q X = Ob (ρ[i]?) fun o => Ob o fun x => Q (.val x) ⟨ρ.set i none, μ⟩ := by
  unfold Wb fMov
  cases e : ρ[i]? with
  | none => simp [e]
  | some o => cases o <;> simp [e]
@[simp] theorem isN_non : SV.isN (.dat .non) = true := rfl
@[simp] theorem isN_int {z : Int} : SV.isN (.dat (.int z)) = false := rfl
@[simp] theorem isN_str {z : Str} : SV.isN (.dat (.str z)) = false := rfl
@[simp] theorem isN_bl {z : Bool} : SV.isN (.dat (.bl z)) = false := rfl
@[simp] theorem isN_tup : SV.isN (.dat (.tup ds)) = false := rfl
@[simp] theorem isN_lst : SV.isN (.dat (.lst ds)) = false := rfl
@[simp] theorem isN_node : SV.isN (.node n xs) = false := rfl
@[simp] theorem isN_dK {ks : List Key} : SV.isN (.dat (.dK ks ds)) = false := rfl
@[simp] theorem s_gIsF : Gb (gIs false ra rb S) kk = Ob (ra.sv S) fun a => Ob (rb.sv S) fun b => b = .dat .non ∧ kk (.b a.isN) S := by
  unfold gIs
  cases ra.sv S with
  | none => simp
  | some a =>
    cases rb.sv S with
    | none => simp
    | some b => cases b with
      | dat d => cases d <;> simp
      | _ => simp
@[simp] theorem s_gIsT : Gb (gIs true ra rb S) kk = Ob (ra.sv S) fun a => Ob (rb.sv S) fun b => b = .dat .non ∧ kk (.b (!a.isN)) S := by
  unfold gIs
  cases ra.sv S with
  | none => simp
  | some a =>
    cases rb.sv S with
    | none => simp
    | some b => cases b with
      | dat d => cases d <;> simp
      | _ => simp
@[simp] theorem bools_map {bs : List Bool} : bools (bs.map D.bl) = some bs := by
  induction bs with
  | nil => rfl
  | cons b bs ih => show (bools (bs.map D.bl)).map _ = _; rw [ih]; rfl
@[simp] theorem bools_mapf {α : Type} {f : α → Bool} {l : List α} : bools (l.map fun t => D.bl (f t)) = some (l.map f) := by
  have := bools_map (bs := l.map f); rwa [List.map_map] at this
@[simp] theorem bools_comp {α : Type} {f : α → Bool} {l : List α} : bools (l.map (D.bl ∘ f)) = some (l.map f) := bools_mapf
@[simp] theorem s_anyD : anyD [.lst ds] = (bools ds).map fun bs => .bl (bs.any id) := rfl
@[simp] theorem s_allD : allD [.lst ds] = (bools ds).map fun bs => .bl (bs.all id) := rfl
@[simp] theorem s_absD {z : Int} : absD [.int z] = some (.int (if z < 0 then -z else z)) := rfl
@[simp] theorem s_gSortS : Gb (gSortS [r] S) kk = Ob (r.peek S) fun d => match d with
    | .lst ds => Ob (strsD ds) fun ys => ys.length < 64 ∧ kk (.val (.own ((sortStrs ys).map fun z => .dat (.str z)))) S
    | _ => False := by
  unfold gSortS
  show Gb (match (r.peek S).bind (fun d => some [d]) with | some [.lst ds] => (strsD ds).bind fun ys => if ys.length < 64 then some (.val (.own ((sortStrs ys).map fun z => .dat (.str z))), S) else none | _ => none) kk = _
  cases r.peek S with
  | none => simp
  | some d => cases d with
    | lst ds => simp only [Option.bind_some, ob_some]; cases strsD ds <;> simp
    | _ => simp
@[simp] theorem s_gDict : Gb (gDict [r] S) kk = Ob (r.its S) fun td => td.1 = false ∧ Ob (pairsD td.2) fun kds => kk (.val (.node (.dK (mkD [] [] kds).1) ((mkD [] [] kds).2.map SV.dat))) S := by
  unfold gDict
  dsimp only
  cases r.its S with
  | none => simp
  | some td => obtain ⟨t, ds⟩ := td; cases t <;> simp
@[simp] theorem wb_dget1 : Wb (fDGet1 fo fe) S Q X = Wb fo S (fun ro S1 => ((ro.sv S1).map fun x => x.isD S1) = some true ∧ Wb fe S1 (fun re S2 => Ob (re.peek S2) fun k => Ob (dgetR ro k S2) fun o => Q (o.getD (.d .non)) S2) X) X := by
  unfold fDGet1; rw [wb_bind]; refine wb_ext fun ro S1 => ?_
  by_cases h : ((ro.sv S1).map fun x => x.isD S1) = some true
  · have e2 : Wb (fun S1 => if ((ro.sv S1).map fun x => x.isD S1) = some true then bindE fe (fun re S2 => (re.peek S2).bind fun k => (dgetR ro k S2).map fun o => Out.ok (o.getD (.d .non)) S2) S1 else none) S1 Q X = Wb (bindE fe (fun re S2 => (re.peek S2).bind fun k => (dgetR ro k S2).map fun o => Out.ok (o.getD (.d .non)) S2)) S1 Q X := by unfold Wb; simp [h]
    rw [e2, wb_bind]
    simp only [h, true_and]
    refine wb_ext fun re S2 => ?_
    unfold Wb
    cases e : re.peek S2 with
    | none => simp [e]
    | some k => cases e3 : dgetR ro k S2 <;> simp [e, e3]
  · unfold Wb; simp [h]
@[simp] theorem s_isD_dK {ks : List Key} : SV.isD S (.node (.dK ks) xs) = true := rfl
@[simp] theorem s_isD_dT {ks : List (List Key)} : SV.isD S (.node (.dT ks) xs) = true := rfl
@[simp] theorem s_isD_DK {ks : List Key} : SV.isD S (.dat (.dK ks ds)) = true := rfl
@[simp] theorem s_isD_DT {ks : List (List Key)} : SV.isD S (.dat (.dT ks ds)) = true := rfl
@[simp] theorem s_dgetR {k : D} {k2 : Option R → Prop} : Ob (dgetR ra k S) k2 = Ob (ra.sv S) fun x => Ob (dgX ra k S x) k2 := by unfold dgetR; cases ra.sv S <;> simp
@[simp] theorem s_dget_dK {ks : List Key} {k : D} : SV.dget S (.dat (.dK ks ds)) k = nget (.dK ks) (ds.map SV.dat) k := rfl
@[simp] theorem s_dget_dT {ks : List (List Key)} {k : D} : SV.dget S (.dat (.dT ks ds)) k = nget (.dT ks) (ds.map SV.dat) k := rfl
@[simp] theorem s_pk_dT {ks : List (List Key)} : (SV.node (.dT ks) xs).peek = (peeks xs).map (D.dT ks) := rfl
@[simp] theorem s_pushAt : pushAt (.bor i p) x ⟨ρ, μ⟩ = (ρ[i]?).bind fun o => o.bind fun y => (y.sub p).bind fun z => match z with
    | .node .lst xs => if xs.length < 1000000 then some (⟨ρ.set i (some (y.putp p (.own (xs ++ [x])))), μ⟩ : Sto) else none
    | _ => none := by
  unfold pushAt
  dsimp only
  rw [s_sub]
  cases e : ρ[i]? with
  | none => rfl
  | some o =>
    cases o with
    | none => rfl
    | some y =>
      simp only [Option.bind_some]
      cases e2 : y.sub p with
      | none => rfl
      | some z =>
        cases z with
        | node n xs => cases n <;> simp [Sto.putp, e]
        | _ => rfl
@[simp] theorem s_itl_val : R.itl S (.val x) = match x with
    | .dat (.lst ds) => some ds
    | .node .lst xs => peeks xs
    | _ => none := by
  unfold R.itl
  cases x with
  | dat d => cases d <;> rfl
  | node n xs => cases n <;> rfl
  | cell c => rfl
noncomputable def SV.itl : SV → Option (List D)
  | .dat (.lst ds) => some ds
  | .node .lst xs => dats xs
  | _ => none
@[simp] theorem s_itl_bor : R.itl S (.bor i p) = (S.sub i p).bind SV.itl := by
  unfold R.itl
  rw [s_sv_bor]
  cases S.sub i p with
  | none => rfl
  | some x => cases x with
    | dat d => cases d <;> rfl
    | node n xs => cases n <;> rfl
    | cell c => rfl
@[simp] theorem itl_dl : SV.itl (.dat (.lst ds)) = some ds := rfl
@[simp] theorem itl_n : SV.itl (.node .lst xs) = dats xs := rfl
@[simp] theorem s_extAt : extAt (.bor i p) ds ⟨ρ, μ⟩ = (ρ[i]?).bind fun o => o.bind fun y => (y.sub p).bind fun z => match z with
    | .node .lst xs => if xs.length + ds.length ≤ 1000000 then some (⟨ρ.set i (some (y.putp p (.own (xs ++ ds.map SV.dat)))), μ⟩ : Sto) else none
    | _ => none := by
  unfold extAt
  dsimp only
  rw [s_sub]
  cases e : ρ[i]? with
  | none => rfl
  | some o =>
    cases o with
    | none => rfl
    | some y =>
      simp only [Option.bind_some]
      cases e2 : y.sub p with
      | none => rfl
      | some z =>
        cases z with
        | node n xs => cases n <;> simp [Sto.putp, e]
        | _ => rfl
@[simp] theorem ws_extend : Ws (fExtend fo fe) S P = Wb fo S (fun ro S1 => Ob (ro.sv S1) fun x => match x with
    | .node .lst _ => Wb fe S1 (fun re S2 => Ob (re.itl S2) fun ds => Ob (extAt ro ds S2) fun S3 => P (.nx S3)) (fun e S1 => P (.exc e S1))
    | _ => False) (fun e S1 => P (.exc e S1)) := by
  unfold fExtend; rw [ws_bind]; refine wb_ext fun ro S1 => ?_
  cases ex : ro.sv S1 with
  | none => unfold Ws; simp [ex]
  | some x =>
    cases x with
    | dat d => unfold Ws; simp [ex]
    | cell c => unfold Ws; simp [ex]
    | node n xs =>
      cases n with
      | lst =>
        simp only [ob_some]
        have e : Ws (fun S1 => match ro.sv S1 with
          | some (.node .lst _) => bindS fe (fun re S2 => match re.itl S2 with
            | some ds => (extAt ro ds S2).map SO.nx
            | none => none) S1
          | _ => none) S1 P = Ws (bindS fe (fun re S2 => match re.itl S2 with
            | some ds => (extAt ro ds S2).map SO.nx
            | none => none)) S1 P := by unfold Ws; simp [ex]
        refine e.trans ?_; rw [ws_bind]; refine wb_ext fun re S2 => ?_; unfold Ws
        cases ek : re.itl S2 with
        | none => simp [ek]
        | some ds => cases e2 : extAt ro ds S2 <;> simp [ek, e2]
      | _ => unfold Ws; simp [ex]
@[simp] theorem ws_augA : Ws (fAugA i fe) ⟨ρ, μ⟩ P = Ob (ρ[i]?) fun o => match o with
    | some (.node .lst _) => Wb fe ⟨ρ, μ⟩ (fun re S1 => Ob (re.itl S1) fun ds => Ob (extAt (.bor i []) ds S1) fun S2 => P (.nx S2)) (fun e S1 => P (.exc e S1))
    | _ => Ws (fAug i gAdd2 fe) ⟨ρ, μ⟩ P := by
  cases e0 : ρ[i]? with
  | none => unfold Ws fAugA fAug; simp [e0]
  | some o =>
    have gen : ∀ {f : FS}, (fAugA i fe ⟨ρ, μ⟩ = f ⟨ρ, μ⟩) → Ws (fAugA i fe) ⟨ρ, μ⟩ P = Ws f ⟨ρ, μ⟩ P := fun h => by unfold Ws; rw [h]
    simp only [ob_some]
    cases o with
    | none => exact gen (by unfold fAugA; simp only [e0])
    | some x =>
      cases x with
      | dat d => exact gen (by unfold fAugA; simp only [e0])
      | cell c => exact gen (by unfold fAugA; simp only [e0])
      | node n xs =>
        cases n with
        | lst =>
          rw [gen (f := bindS fe (fun re S1 => match re.itl S1 with
            | some ds => (extAt (.bor i []) ds S1).map SO.nx
            | none => none)) (by unfold fAugA; simp only [e0] <;> rfl), ws_bind]
          dsimp only
          refine wb_ext fun re S1 => ?_
          unfold Ws
          cases ek : re.itl S1 with
          | none => simp [ek]
          | some ds => cases e2 : extAt (.bor i []) ds S1 <;> simp [ek, e2]
        | _ => exact gen (by unfold fAugA; simp only [e0])
@[simp] theorem wb_zipS : Wb (fZipS fA) S QI X = Wb fA S (fun rs S1 => Gb (escs rs S1) fun l S2 => match l with
    | [x, y] => Ob (seqD x) fun ds => Ob (seqD y) fun es => ds.length = es.length ∧ QI ((ds.zip es).map pair2) S2
    | _ => False) X := by
  unfold fZipS; rw [wb_bind]; refine wb_ext fun rs S1 => ?_
  unfold Wb
  cases e : escs rs S1 with
  | none => simp [e]
  | some z =>
    obtain ⟨l, S2⟩ := z
    match l with
    | [] => simp [e]
    | [_] => simp [e]
    | _ :: _ :: _ :: _ => simp [e]
    | [x, y] =>
      cases e1 : seqD x with
      | none => simp [e, e1]
      | some ds =>
        cases e2 : seqD y with
        | none => simp [e, e1, e2]
        | some es => by_cases h : ds.length = es.length <;> simp [e, e1, e2, h]
@[simp] theorem wb_enum : Wb (fEnum fA) S QI X = Wb fA S (fun rs S1 => Gb (escs rs S1) fun l S2 => match l with
    | [x] => Ob (seqD x) fun ds => QI (enumD ds) S2
    | _ => False) X := by
  unfold fEnum; rw [wb_bind]; refine wb_ext fun rs S1 => ?_
  unfold Wb
  cases e : escs rs S1 with
  | none => simp [e]
  | some z =>
    obtain ⟨l, S2⟩ := z
    match l with
    | [] => simp [e]
    | _ :: _ :: _ => simp [e]
    | [x] => cases e1 : seqD x <;> simp [e, e1]
@[simp] theorem seqD_l : seqD (.lst ds) = some ds := rfl
@[simp] theorem seqD_t : seqD (.tup ds) = some ds := rfl
@[simp] theorem seqD_kt : seqD (.kt ds) = some ds := rfl
@[simp] theorem wb_rev : Wb (fRev fe) S Q X = Wb fe S (fun r S1 => Gb (r.its S1) fun t ds => if t = true then Q (.d (.tup ds.reverse)) S1 else Q (.val (.own (ds.reverse.map SV.dat))) S1) X := by
  unfold fRev; rw [wb_bind]; refine wb_ext fun r S1 => ?_
  unfold Wb gRev
  cases e : r.its S1 with
  | none => simp [e]
  | some td => obtain ⟨t, ds⟩ := td; cases t <;> simp [e]
end
section
variable {α : Type} {xs : List α} {e : α → D} {tg : Tg} {f : FS} {S : Sto} {P : SO → Prop}
theorem forL_ind (I : List α → Sto → Prop) (h0 : I [] S) (step : ∀ pre x post S, xs = pre ++ x :: post → I pre S → Ob (tgS tg (e x) S.ρ) fun ρ => Ws f ⟨ρ, S.μ⟩ fun o => match o with
    | .nx S1 => I (pre ++ [x]) S1
    | .ct S1 => I (pre ++ [x]) S1
    | .bk S1 => P (.nx S1)
    | o => P o) (hend : ∀ S, I xs S → P (.nx S)) : Ws (forF tg f (xs.map e)) S P := by
  refine forF_ind (fun i S => I (xs.take i) S) (by simpa using h0) (fun i d S hd hI => ?_) (fun S hI => hend S (by rwa [List.length_map, List.take_length] at hI))
  rw [List.getElem?_map] at hd
  cases ex : xs[i]? with
  | none => rw [ex] at hd; cases hd
  | some x =>
    rw [ex] at hd; cases hd
    have et : xs.take (i + 1) = xs.take i ++ [x] := by rw [List.take_add_one, ex]; rfl
    have es : xs = xs.take i ++ x :: xs.drop (i + 1) := by
      conv => lhs; rw [← List.take_append_drop i xs]
      congr 1
      exact List.drop_eq_getElem?_toList_append .. |>.trans (by rw [ex]; rfl)
    have q := step (xs.take i) x (xs.drop (i + 1)) S es hI
    rwa [← et] at q
end
section
variable {α : Type} {xs : List α} {e : α → D} {tg : Tg} {ft : FT} {fe : FE} {vs : List Nat} {S : Sto} {Q : R → Sto → Prop}
theorem ctL_filter (p : α → Bool) (g : α → SV) (hl : xs.length ≤ 1000000) (h : ∀ x ∈ xs, Ob (tgS tg (e x) (S.wipe vs).ρ) fun ρ => Wb ft ⟨ρ, S.μ⟩ (fun b S1 => b = p x ∧ br b (Wb fe S1 (fun y S2 => Gb (y.kid S2) fun z S3 => z = g x ∧ S3.wipe vs = S.wipe vs) fun _ _ => False) (S1.wipe vs = S.wipe vs)) fun _ _ => False)
    (hq : Q (.val (.own ((xs.filter p).map g))) (S.wipe vs)) : fCompTail tg ft fe vs (xs.map e) S Q := by
  unfold fCompTail
  refine compF_ind (fun i acc S1 => acc = ((xs.take i).filter p).map g ∧ S1 = S.wipe vs) ⟨by simp, rfl⟩ (fun i d acc S1 hd hI => ?_) (fun acc S1 hI => ?_)
  · obtain ⟨rfl, rfl⟩ := hI
    rw [List.getElem?_map] at hd
    cases ex : xs[i]? with
    | none => rw [ex] at hd; cases hd
    | some x =>
      rw [ex] at hd; cases hd
      have hi := (List.getElem?_eq_some_iff.mp ex).1
      have et : xs.take (i + 1) = xs.take i ++ [x] := by rw [List.take_add_one, ex]; rfl
      obtain ⟨ρ, e1, r, e2, q⟩ := h x (List.mem_of_getElem? ex)
      refine ⟨ρ, e1, r, e2, ?_⟩
      cases r with
      | exc e S1 => exact q
      | ok b S1 =>
        obtain ⟨eb, q⟩ := q
        cases b with
        | true =>
          simp only [br_t] at q ⊢
          refine wb_mono q (fun y S2 hy => ?_) fun _ _ h => h
          obtain ⟨z, S3, e3, rfl, e4⟩ := hy
          refine ⟨_, S3, e3, ?_, ?_, e4⟩
          · rw [List.length_map]
            have h1 := List.length_filter_le p (xs.take i)
            rw [List.length_take] at h1
            omega
          · rw [et, List.filter_append, List.map_append]; simp [← eb]
        | false =>
          simp only [br_f] at q ⊢
          exact ⟨by rw [et, List.filter_append, List.map_append]; simp [← eb], q⟩
  · obtain ⟨rfl, rfl⟩ := hI
    rw [List.length_map, List.take_length]; exact hq
theorem ctL_map (g : α → SV) (hl : xs.length ≤ 1000000) (h : ∀ x ∈ xs, Ob (tgS tg (e x) (S.wipe vs).ρ) fun ρ => Wb fe ⟨ρ, S.μ⟩ (fun y S2 => Gb (y.kid S2) fun z S3 => z = g x ∧ S3.wipe vs = S.wipe vs) fun _ _ => False)
    (hq : Q (.val (.own (xs.map g))) (S.wipe vs)) : fCompTail tg fYes fe vs (xs.map e) S Q := by
  refine ctL_filter (fun _ => true) g hl (fun x hx => ?_) (by rw [show xs.filter (fun _ => true) = xs from List.filter_eq_self.mpr (fun _ _ => rfl)]; exact hq)
  obtain ⟨ρ, e, q⟩ := h x hx
  exact ⟨ρ, e, by simpa using q⟩
end
end L3
namespace L3
open PySem PySem.Spec PyProof.Rows L2
section
variable {α κ : Type} [DecidableEq κ]
end
@[simp] theorem xorB_t {b : Bool} : xorB true b = !b := rfl
@[simp] theorem xorB_f {b : Bool} : xorB false b = b := rfl
@[simp] theorem ixN_m1 {n : Nat} : ixN (n + 1) (-1) = some n := ixN_neg1
@[simp] theorem ixN_m2 {n : Nat} : ixN (n + 2) (-2) = some n := ixN_neg2
@[simp] theorem atI_last {α : Type} {xs : List α} {x : α} : atI (xs ++ [x]) (-1) = some x := by
  unfold atI
  rw [List.length_append, List.length_singleton, ixN_neg1, Option.bind_some]
  simp
theorem cut_from {α : Type} {xs : List α} {n : Nat} : cutD xs (some (n : Int)) none = xs.drop n := by
  unfold cutD
  rw [show HT.sIx xs.length 0 (some (n : Int)) = min n xs.length from HT.sIx_nat _ 0 n]
  rw [show HT.sIx xs.length xs.length none = xs.length from rfl]
  rw [List.take_of_length_le (by rw [List.length_drop]; omega)]
  rcases Nat.le_total n xs.length with h | h
  · rw [Nat.min_eq_left h]
  · rw [Nat.min_eq_right h, List.drop_length, List.drop_of_length_le h]
theorem cut_m1 {α : Type} {xs : List α} : cutD xs none (some (-1)) = xs.dropLast := by
  unfold cutD
  rw [show HT.sIx xs.length 0 none = 0 from rfl]
  have : HT.sIx xs.length xs.length (some (-1)) = xs.length - 1 := by
    unfold HT.sIx; dsimp only; rw [if_pos (by decide)]; omega
  rw [this, List.dropLast_eq_take]; rfl
@[simp] theorem cut_m1' {α : Type} {xs : List α} : cutD xs none (some (-1)) = xs.dropLast := cut_m1
@[simp] theorem cut_one {α : Type} {xs : List α} : cutD xs (some 1) none = xs.tail := by rw [show (1 : Int) = ((1 : Nat) : Int) from rfl, cut_from, List.drop_one]
mutual
noncomputable def D.pl : D → Prop
  | .non => True
  | .int _ => True
  | .str _ => True
  | .lst xs => plL xs
  | .tup xs => plL xs
  | _ => False
noncomputable def plL : List D → Prop
  | [] => True
  | d :: ds => d.pl ∧ plL ds
end
@[simp] theorem pl_non : D.pl .non := by simp [D.pl]
@[simp] theorem pl_int {i : Int} : (D.int i).pl := by simp [D.pl]
@[simp] theorem pl_str {x : Str} : (D.str x).pl := by simp [D.pl]
@[simp] theorem pl_lst {xs : List D} : (D.lst xs).pl = plL xs := by simp [D.pl]
@[simp] theorem pl_tup {xs : List D} : (D.tup xs).pl = plL xs := by simp [D.pl]
@[simp] theorem plL_nil : plL [] := by simp [plL]
@[simp] theorem plL_cons {d : D} {ds : List D} : plL (d :: ds) = (d.pl ∧ plL ds) := by simp [plL]
@[simp] theorem plL_app : ∀ {xs ys : List D}, plL (xs ++ ys) ↔ plL xs ∧ plL ys
  | [], ys => by simp
  | x :: xs, ys => by simp [plL_app, and_assoc]
theorem plL_iff {xs : List D} : plL xs ↔ ∀ d ∈ xs, d.pl := by
  induction xs with
  | nil => simp
  | cons x xs ih => simp [ih]
@[simp] theorem plL_map {α : Type} {f : α → D} {xs : List α} : plL (xs.map f) ↔ ∀ x ∈ xs, (f x).pl := by simp [plL_iff]
@[simp] theorem pl_str' : ∀ x : Str, (D.str x).pl := fun _ => pl_str
mutual
theorem eqv_pl : ∀ (a b : D), a.pl → b.pl → (PyData.eqv (pyOf a) (pyOf b) = true ↔ a = b)
  | .non, b, _, hb => by cases b <;> simp_all [D.pl, pyOf, PyData.eqv]
  | .int i, b, _, hb => by cases b <;> simp_all [D.pl, pyOf, PyData.eqv]
  | .str x, b, _, hb => by cases b <;> simp_all [D.pl, pyOf, PyData.eqv]
  | .lst xs, b, ha, hb => by
    cases b with
    | lst ys => simp only [D.pl] at ha hb; simp [pyOf, PyData.eqv, eqvs_pl xs ys ha hb]
    | _ => simp_all [D.pl, pyOf, PyData.eqv]
  | .tup xs, b, ha, hb => by
    cases b with
    | tup ys => simp only [D.pl] at ha hb; simp [pyOf, PyData.eqv, eqvs_pl xs ys ha hb]
    | _ => simp_all [D.pl, pyOf, PyData.eqv]
  | .bl _, _, ha, _ => by simp [D.pl] at ha
  | .kl _, _, ha, _ => by simp [D.pl] at ha
  | .kt _, _, ha, _ => by simp [D.pl] at ha
  | .dK _ _, _, ha, _ => by simp [D.pl] at ha
  | .dT _ _, _, ha, _ => by simp [D.pl] at ha
  | .wK _ _, _, ha, _ => by simp [D.pl] at ha
  | .wT _ _, _, ha, _ => by simp [D.pl] at ha
  | .fn _, _, ha, _ => by simp [D.pl] at ha
  | .exc _ _ _, _, ha, _ => by simp [D.pl] at ha
theorem eqvs_pl : ∀ (xs ys : List D), plL xs → plL ys → (PyData.eqvAll (pysOf xs) (pysOf ys) = true ↔ xs = ys)
  | [], [], _, _ => by simp [pysOf, PyData.eqvAll]
  | [], _ :: _, _, _ => by simp [pysOf, PyData.eqvAll]
  | _ :: _, [], _, _ => by simp [pysOf, PyData.eqvAll]
  | x :: xs, y :: ys, ha, hb => by
    simp only [plL_cons] at ha hb
    simp [pysOf, PyData.eqvAll, eqv_pl x y ha.1 hb.1, eqvs_pl xs ys ha.2 hb.2]
end
open Classical in
theorem eqT_pl {a b : D} (ha : a.pl) (hb : b.pl) : eqT a b = decide (a = b) := by
  have h := eqv_pl a b ha hb
  have h2 : PyData.eqv (pyOf a) (pyOf b) = decide (a = b) := by
    by_cases e : a = b
    · simp [e] at h ⊢; rw [e] at *; exact h
    · simp [e] at h ⊢; exact h
  cases a <;> cases b <;> first | exact h2 | (simp [eqT])
@[simp] theorem t_non : truD .non = some false := rfl
@[simp] theorem t_tup0 : truD (.tup []) = some false := rfl
@[simp] theorem t_tup1 {d : D} {ds : List D} : truD (.tup (d :: ds)) = some true := rfl
@[simp] theorem t_lst0 : truD (.lst []) = some false := rfl
@[simp] theorem t_lst1 {d : D} {ds : List D} : truD (.lst (d :: ds)) = some true := rfl
@[simp] theorem s_putp1 {n : Nd} {xs : List SV} {k : Nat} {p : List Nat} {y : SV} : (SV.node n xs).putp (k :: p) y = .node n (match xs[k]? with
    | some z => xs.set k (z.putp p y)
    | none => xs) := by
  show (match xs[k]? with | some z => SV.node n (xs.set k (z.putp p y)) | none => SV.node n xs) = _
  cases xs[k]? <;> rfl
@[simp] theorem set_last {α : Type} {xs : List α} {x y : α} {k : Nat} (h : k = xs.length) : (xs ++ [x]).set k y = xs ++ [y] := by subst h; simp
@[simp] theorem s_tru_node {S : Sto} {n : Nd} {xs : List SV} : R.tru S (.val (.node n xs)) = (SV.node n xs).peek.bind truD := rfl
@[simp] theorem s_storeAt {ρ : List (Option SV)} {μ : List SV} {i : Nat} {p : List Nat} {k : D} {x : SV} : storeAt (.bor i p) k x ⟨ρ, μ⟩ = (ρ[i]?).bind fun o => o.bind fun y => (y.sub p).bind fun z => match z with
    | .cell c => (μ[c]?).bind fun y => match y with
      | .node n xs => (putNd n xs k x).map fun (z : Nd × List SV) => (⟨ρ, μ.set c (.node z.1 z.2)⟩ : Sto)
      | _ => none
    | .node n xs => (putNd n xs k x).map fun (z : Nd × List SV) => (⟨ρ.set i (some (y.putp p (.node z.1 z.2))), μ⟩ : Sto)
    | _ => none := by
  unfold storeAt
  rw [s_sv_bor, s_sub]
  cases e : ρ[i]? with
  | none => rfl
  | some o =>
    cases o with
    | none => rfl
    | some y =>
      simp only [Option.bind_some]
      cases e3 : y.sub p with
      | none => rfl
      | some z =>
        cases z with
        | node n xs =>
          dsimp only
          cases e4 : putNd n xs k x <;> simp [Sto.putp, e, e4]
        | cell c =>
          dsimp only
          cases e2 : μ[c]? with
          | none => simp [e2]
          | some y => cases y <;> simp [e2] <;> rfl
        | dat d => rfl
@[simp] theorem wb_isi {T : String} {fe : FE} {S : Sto} {Q : R → Sto → Prop} {X : Ex → Sto → Prop} : Wb (fIsi T fe) S Q X = Wb fe S (fun r S1 => Ob (r.peek S1) fun d => Ob (isiD T d) fun z => Q (.d z) S1) X := by
  unfold fIsi; rw [wb_bind]; refine wb_ext fun r S1 => ?_
  unfold Wb
  cases e : r.peek S1 with
  | none => simp [e]
  | some d => cases e2 : isiD T d <;> simp [e, e2]
theorem kb_tt : kitB "tuple" "tuple" = some true := by decide +kernel
theorem kb_lt : kitB "list" "tuple" = some false := by decide +kernel
theorem kb_ll : kitB "list" "list" = some true := by decide +kernel
theorem kb_tl : kitB "tuple" "list" = some false := by decide +kernel
@[simp] theorem isi_tt {ds : List D} : isiD "tuple" (.tup ds) = some (.bl true) := by show (kitB "tuple" "tuple").map D.bl = _; rw [kb_tt]; rfl
@[simp] theorem isi_lt {ds : List D} : isiD "tuple" (.lst ds) = some (.bl false) := by show (kitB "list" "tuple").map D.bl = _; rw [kb_lt]; rfl
@[simp] theorem isi_ll {ds : List D} : isiD "list" (.lst ds) = some (.bl true) := by show (kitB "list" "list").map D.bl = _; rw [kb_ll]; rfl
@[simp] theorem isi_tl {ds : List D} : isiD "list" (.tup ds) = some (.bl false) := by show (kitB "tuple" "list").map D.bl = _; rw [kb_tl]; rfl
noncomputable def Nx (I : Sto → Prop) : SO → Prop
  | .nx S => I S
  | _ => False
section
variable {I : Sto → Prop} {S : Sto} {f g : FS} {P : SO → Prop}
@[simp] theorem nx_nx : Nx I (.nx S) = I S := rfl
@[simp] theorem nx_bk : Nx I (.bk S) = False := rfl
@[simp] theorem nx_ct : Nx I (.ct S) = False := rfl
@[simp] theorem nx_rt {x : SV} {μ : List SV} : Nx I (.rt x μ) = False := rfl
@[simp] theorem nx_exc {e : Ex} : Nx I (.exc e S) = False := rfl
end
end L3
namespace L3
open PySem PySem.Spec PyProof.Rows L2
section
variable {S : Sto} {Q : R → Sto → Prop} {QA : List R → Sto → Prop} {QI : List D → Sto → Prop} {X : Ex → Sto → Prop} {P : SO → Prop} {fa fb fe fo fx fk : FE} {fA fK : FA} {f g : FS} {i : Nat}
@[simp] theorem wb_goW {F : FnS} {dfl : List SV} : Wb (fGoW F dfl fA) S Q X = Wb fA S (fun rs S1 => Gb (argsOf rs S1) fun as S2 => Wf F (as ++ dfl) S2.μ (fun x μ' => Q (.val (lkSV x)) ⟨S2.ρ, μ'⟩) (fun e μ' => X e ⟨S2.ρ, μ'⟩)) X := by
  unfold fGoW; rw [wb_bind]; refine wb_ext fun rs S1 => ?_
  unfold Wb Wf
  cases e : argsOf rs S1 with
  | none => simp [e]
  | some z =>
    obtain ⟨as, S2⟩ := z
    simp only [e, gb_some]
    cases e2 : F (as ++ dfl) S2.μ with
    | none => simp
    | some r => cases r <;> simp
@[simp] theorem wb_goN {wk : Bool} {F : FnS} {dfl : List SV} {ss : List Src} {np nk : Nat} : Wb (fGoN wk F dfl ss np nk fA fK) S Q X = Wb fA S (fun rs S1 => Wb fK S1 (fun ks S2 => (rs.length = np ∧ ks.length = nk) ∧ Gb (argsOf (rs ++ ks) S2) fun as S3 => Wf F (pick (as.take np) dfl (as.drop np) ss) S3.μ (fun x μ' => Q (.val (if wk = true then lkSV x else x)) ⟨S3.ρ, μ'⟩) (fun e μ' => X e ⟨S3.ρ, μ'⟩)) X) X := by
  unfold fGoN; rw [wb_bind]; refine wb_ext fun rs S1 => ?_
  rw [wb_bind]; refine wb_ext fun ks S2 => ?_
  unfold Wb Wf
  by_cases h : rs.length = np ∧ ks.length = nk
  · cases e : argsOf (rs ++ ks) S2 with
    | none => simp [h, e]
    | some z =>
      obtain ⟨as, S3⟩ := z
      simp only [h, e, gb_some, and_self, if_true, true_and]
      cases e2 : F (pick (as.take np) dfl (as.drop np) ss) S3.μ with
      | none => simp
      | some r => cases r <;> simp
  · simp [h]
@[simp] theorem wb_dget2 : Wb (fDGet2 fo fe fx) S Q X = Wb fo S (fun ro S1 => ((ro.sv S1).map fun x => x.isD S1) = some true ∧ Wb fe S1 (fun re S2 => Wb fx S2 (fun rx S3 => Ob (re.peek S3) fun k => Ob (dgetR ro k S3) fun o => Q (o.getD rx) S3) X) X) X := by
  unfold fDGet2; rw [wb_bind]; refine wb_ext fun ro S1 => ?_
  by_cases h : ((ro.sv S1).map fun x => x.isD S1) = some true
  · have e2 : ∀ {t : Sto → Option (Out R)}, Wb (fun S1 => if ((ro.sv S1).map fun x => x.isD S1) = some true then t S1 else none) S1 Q X = Wb t S1 Q X := fun {t} => by unfold Wb; simp [h]
    rw [e2, wb_bind]
    simp only [h, true_and]
    refine wb_ext fun re S2 => ?_
    rw [wb_bind]; refine wb_ext fun rx S3 => ?_
    unfold Wb
    cases e : re.peek S3 with
    | none => simp [e]
    | some k => cases e3 : dgetR ro k S3 <;> simp [e, e3]
  · unfold Wb; simp [h]
@[simp] theorem wb_setd : Wb (fSetd fo fk fx) S Q X = Wb fo S (fun ro S1 => Ob (ro.sv S1) fun y => ∃ c, y = .cell c ∧ (SV.cell c).isD S1 = true ∧ Wb fk S1 (fun rk S2 => Wb fx S2 (fun rx S3 => Ob (rx.sv S3) fun z => ∃ x, z = .dat x ∧ Ob (rk.peek S3) fun kd => Ob (kd.key) fun k => Gb (setdC c k x S3) fun d S4 => Q (.d d) S4) X) X) X := by
  unfold fSetd; rw [wb_bind]; refine wb_ext fun ro S1 => ?_
  cases e : ro.sv S1 with
  | none => unfold Wb; simp [e]
  | some y =>
    cases y with
    | dat => unfold Wb; simp [e]
    | node => unfold Wb; simp [e]
    | cell c =>
      by_cases h : (SV.cell c).isD S1 = true
      · have e2 : ∀ {t : Sto → Option (Out R)}, Wb (fun S1 => match ro.sv S1 with | some (.cell c) => if (SV.cell c).isD S1 = true then t S1 else none | _ => none) S1 Q X = Wb t S1 Q X := fun {t} => by unfold Wb; simp [e, h]
        refine Eq.trans (b := Wb (bindE fk fun rk => bindE fx fun rx S3 => match rx.sv S3 with
          | some (.dat x) => ((rk.peek S3).bind D.key).bind fun k => (setdC c k x S3).map fun z => .ok (.d z.1) z.2
          | _ => none) S1 Q X) (by unfold Wb; simp [e, h] <;> exact Iff.rfl) ?_
        simp only [ob_some, SV.cell.injEq, exists_eq_left', h, true_and]
        rw [wb_bind]; refine wb_ext fun rk S2 => ?_
        rw [wb_bind]; refine wb_ext fun rx S3 => ?_
        cases e5 : rx.sv S3 with
        | none => unfold Wb; simp [e5]
        | some z =>
          cases z with
          | node => unfold Wb; simp [e5]
          | cell => unfold Wb; simp [e5]
          | dat x =>
            simp only [ob_some, SV.dat.injEq, exists_eq_left']
            unfold Wb
            cases e6 : rk.peek S3 with
            | none => simp [e5, e6]
            | some kd =>
              cases e7 : kd.key with
              | none => simp [e5, e6, e7]
              | some k => cases e8 : setdC c k x S3 <;> simp [e5, e6, e7, e8]
      · unfold Wb; simp [e, h]
@[simp] theorem ws_setdApp : Ws (fSetdApp fo fk fe) S P = Wb fo S (fun ro S1 => Ob (ro.sv S1) fun y => (∃ ks xs, y = .node (.dK ks) xs) ∧ Wb fk S1 (fun rk S2 => Ob (rk.peek S2) fun kd => Ob (kd.key) fun k => Gb (setdAt ro k S2) fun rl S3 => Wb fe S3 (fun re S4 => Gb (re.kid S4) fun x S5 => Ob (pushAt rl x S5) fun S6 => P (.nx S6)) (fun e S' => P (.exc e S'))) (fun e S' => P (.exc e S'))) (fun e S' => P (.exc e S')) := by
  have wsb : ∀ {α : Type} {h : Sto → Option (Out α)} {k : α → FS} {S : Sto}, Ws (bindS h k) S P = Wb h S (fun a S1 => Ws (k a) S1 P) (fun e S1 => P (.exc e S1)) := fun {α h k S} => by
    unfold Ws Wb bindS
    cases h S with
    | none => simp
    | some r => cases r <;> simp
  unfold fSetdApp; rw [wsb]; refine wb_ext fun ro S1 => ?_
  cases e : ro.sv S1 with
  | none => unfold Ws; simp [e]
  | some y =>
    cases y with
    | dat => unfold Ws; simp [e]
    | cell => unfold Ws; simp [e]
    | node n xs =>
      cases n with
      | lst => unfold Ws; simp [e]
      | dT => unfold Ws; simp [e]
      | ins => unfold Ws; simp [e]
      | dK ks =>
        refine Eq.trans (b := Ws (bindS fk fun rk S2 => ((rk.peek S2).bind D.key).bind fun k => (setdAt ro k S2).bind fun z => bindS fe (fun re S4 => match re.kid S4 with
          | some (x, S5) => (pushAt z.1 x S5).map SO.nx
          | none => none) z.2) S1 P) (by unfold Ws; simp [e] <;> exact Iff.rfl) ?_
        rw [wsb]
        have : (∃ ks' xs', SV.node (.dK ks) xs = .node (.dK ks') xs') := ⟨_, _, rfl⟩
        simp only [ob_some, this, true_and]
        refine wb_ext fun rk S2 => ?_
        cases e6 : rk.peek S2 with
        | none => unfold Ws; simp [e6]
        | some kd =>
          cases e7 : kd.key with
          | none => unfold Ws; simp [e6, e7]
          | some k =>
            cases e8 : setdAt ro k S2 with
            | none => unfold Ws; simp [e6, e7, e8]
            | some z =>
              obtain ⟨rl, S3⟩ := z
              refine Eq.trans (b := Ws (bindS fe (fun re S4 => match re.kid S4 with
                | some (x, S5) => (pushAt rl x S5).map SO.nx
                | none => none)) S3 P) (by unfold Ws; simp [e6, e7, e8]) ?_
              rw [wsb]
              simp only [ob_some, e7, e8, gb_some]
              refine wb_ext fun re S4 => ?_
              unfold Ws
              cases e9 : re.kid S4 with
              | none => simp [e9]
              | some z =>
                obtain ⟨x, S5⟩ := z
                cases e10 : pushAt rl x S5 <;> simp [e9, e10]
@[simp] theorem ws_lkS {ρ : List (Option SV)} {μ : List SV} : Ws (fLkS i f) ⟨ρ, μ⟩ P = Ws f (match ρ[i]? with
    | some (some x) => match lkD x with
      | some d => ⟨ρ.set i (some (.dat d)), μ⟩
      | none => ⟨ρ, μ⟩
    | _ => ⟨ρ, μ⟩) P := by
  unfold Ws fLkS
  dsimp only
  cases ρ[i]? with
  | none => rfl
  | some o =>
    cases o with
    | none => rfl
    | some x =>
      dsimp only
      cases lkD x <;> rfl
@[simp] theorem ws_ch {g : List SV → List SV} : Ws (fCh g fo) S P = Wb fo S (fun ro S1 => Ob (chAt g ro S1) fun S2 => P (.nx S2)) (fun e S1 => P (.exc e S1)) := by
  unfold Ws Wb fCh bindS
  cases fo S with
  | none => simp
  | some r =>
    cases r with
    | ok ro S1 => cases e : chAt g ro S1 <;> simp [e]
    | exc => simp
noncomputable def pairsW : SV → Option (List D)
  | .dat (.wK ks ds) => some ((ks.zip ds).map itemD)
  | _ => none
noncomputable def valsW : SV → Option (List D)
  | .dat (.wK ks ds) => some ds
  | _ => none
@[simp] theorem pairsW_k {ks : List Key} {ds : List D} : pairsW (.dat (.wK ks ds)) = some ((ks.zip ds).map itemD) := rfl
@[simp] theorem valsW_k {ks : List Key} {ds : List D} : valsW (.dat (.wK ks ds)) = some ds := rfl
@[simp] theorem wb_pairsD : Wb (fPairsD fe) S QI X = Wb fe S (fun r S1 => Ob (r.sv S1) fun x => Ob (pairsW x) fun ds => QI ds S1) X := by
  unfold fPairsD; rw [wb_bind]; refine wb_ext fun r S1 => ?_
  unfold Wb
  cases e : r.sv S1 with
  | none => simp [e]
  | some x => cases x with
    | dat d => cases d <;> simp [e, pairsW]
    | node => simp [e, pairsW]
    | cell => simp [e, pairsW]
@[simp] theorem wb_vals : Wb (fVals fe) S QI X = Wb fe S (fun r S1 => Ob (r.sv S1) fun x => Ob (valsW x) fun ds => QI ds S1) X := by
  unfold fVals; rw [wb_bind]; refine wb_ext fun r S1 => ?_
  unfold Wb
  cases e : r.sv S1 with
  | none => simp [e]
  | some x => cases x with
    | dat d => cases d <;> simp [e, valsW]
    | node => simp [e, valsW]
    | cell => simp [e, valsW]
@[simp] theorem wb_zip : Wb (fZip fA) S QI X = Wb fA S (fun rs S1 => Gb (escs rs S1) fun ds S2 => ∃ x y, ds = [x, y] ∧ Ob (seqT x) fun u => Ob (seqT y) fun w => u.1 = w.1 ∧ QI ((u.2.zip w.2).map pair2) S2) X := by
  unfold fZip; rw [wb_bind]; refine wb_ext fun rs S1 => ?_
  unfold Wb
  cases e : escs rs S1 with
  | none => simp [e]
  | some z =>
    obtain ⟨ds, S2⟩ := z
    match ds with
    | [] => simp [e]
    | [_] => simp [e]
    | _ :: _ :: _ :: _ => simp [e]
    | [x, y] =>
      simp only [e, gb_some, List.cons.injEq, and_true]
      have : (∃ x' y', (x = x' ∧ y = y') ∧ Ob (seqT x') fun u => Ob (seqT y') fun w => u.1 = w.1 ∧ QI ((u.2.zip w.2).map pair2) S2) = (Ob (seqT x) fun u => Ob (seqT y) fun w => u.1 = w.1 ∧ QI ((u.2.zip w.2).map pair2) S2) := propext ⟨fun ⟨_, _, ⟨h1, h2⟩, h⟩ => by subst h1 h2; exact h, fun h => ⟨_, _, ⟨rfl, rfl⟩, h⟩⟩
      rw [this]
      cases seqT x with
      | none => simp
      | some u => cases seqT y with
        | none => simp
        | some w =>
          simp only [Option.bind_some, ob_some]
          by_cases h : u.1 = w.1 <;> simp [h]
@[simp] theorem seqT_l {ds : List D} : seqT (.lst ds) = some (false, ds) := rfl
@[simp] theorem seqT_t {ds : List D} : seqT (.tup ds) = some (true, ds) := rfl
@[simp] theorem seqT_kt {ds : List D} : seqT (.kt ds) = some (true, ds) := rfl
@[simp] theorem wb_sortSet : Wb (fSortSet fe) S Q X = Wb fe S (fun r S1 => Ob (r.its S1) fun td => Ob (keysD td.2) fun ks => Ob (strsK ks) fun ss => ks.length < 4000 ∧ Q (.val (.own ((sortStrs (dd ss)).map fun z => .dat (.str z)))) S1) X := by
  unfold fSortSet; rw [wb_bind]; refine wb_ext fun r S1 => ?_
  unfold Wb
  cases e : r.its S1 with
  | none => simp [e]
  | some td =>
    obtain ⟨t, ds⟩ := td
    simp only [e, ob_some]
    cases keysD ds with
    | none => simp
    | some ks => cases e2 : strsK ks with
      | none => simp [e2]
      | some ss => by_cases h : ks.length < 4000 <;> simp [h, e2]
@[simp] theorem wb_lenSet : Wb (fLenSet fe) S Q X = Wb fe S (fun r S1 => Ob (r.its S1) fun td => Ob (keysD td.2) fun ks => ks.length < 4000 ∧ Q (.i (dd ks).length) S1) X := by
  unfold fLenSet; rw [wb_bind]; refine wb_ext fun r S1 => ?_
  unfold Wb
  cases e : r.its S1 with
  | none => simp [e]
  | some td =>
    obtain ⟨t, ds⟩ := td
    simp only [e, ob_some]
    cases keysD ds with
    | none => simp
    | some ks => by_cases h : ks.length < 4000 <;> simp [h]
end
section
variable {S : Sto} {Q : R → Sto → Prop} {X : Ex → Sto → Prop} {fA : FA}
@[simp] theorem wb_goP {F : FnS} {dfl : List SV} : Wb (fGoP F dfl fA) S Q X = Wb fA S (fun rs S1 => Ob (peeksR rs S1) fun ds => Wf F (ds.map SV.dat ++ dfl) [] (fun x _ => ∃ d, x = .dat d ∧ d.sc = true ∧ Q (.d d) S1) (fun _ _ => False)) X := by
  unfold fGoP; rw [wb_bind]; refine wb_ext fun rs S1 => ?_
  unfold Wb Wf
  cases e : peeksR rs S1 with
  | none => simp [e]
  | some ds =>
    simp only [e, Option.bind_some, ob_some]
    cases e2 : F (ds.map SV.dat ++ dfl) [] with
    | none => simp
    | some r =>
      cases r with
      | exc => simp
      | ok x μ =>
        cases x with
        | node => simp
        | cell => simp
        | dat d =>
          by_cases hs : d.sc = true
          · simp [hs]
          · simp [hs]
@[simp] theorem sc_bl {b : Bool} : (D.bl b).sc = true := rfl
@[simp] theorem sc_int {i : Int} : (D.int i).sc = true := rfl
@[simp] theorem sc_str {x : Str} : (D.str x).sc = true := rfl
end
end L3
namespace L3
open PySem PySem.Spec PyProof.Rows L2
noncomputable def kS (L : List Str) : List Key := L.map Sum.inr
noncomputable def dN (L : List Str) (f : Str → D) : SV := .node (.dK (kS L)) (L.map fun y => .dat (f y))
noncomputable def dD (L : List Str) (f : Str → D) : D := .wK (kS L) (L.map f)
theorem idxK_mem {κ : Type} [DecidableEq κ] {k : κ} : ∀ {ks : List κ}, k ∈ ks → ∃ j, idxK k ks = some j ∧ ks[j]? = some k
  | [], h => by simp at h
  | j :: ks, h => by
    rw [idxK]
    by_cases e : j = k
    · subst e; exact ⟨0, if_pos rfl, rfl⟩
    · have h : k ∈ ks := (List.mem_cons.mp h).elim (fun z => absurd z.symm e) id
      obtain ⟨i, h1, h2⟩ := idxK_mem h
      exact ⟨i + 1, by rw [if_neg e, h1]; rfl, by simpa using h2⟩
theorem idxK_not {κ : Type} [DecidableEq κ] {k : κ} : ∀ {ks : List κ}, k ∉ ks → idxK k ks = none
  | [], _ => rfl
  | j :: ks, h => by
    rw [idxK, if_neg (fun z => h (by simp [z])), idxK_not fun z => h (List.mem_cons_of_mem _ z)]; rfl
theorem mem_kS {x : Str} {L : List Str} : (Sum.inr x : Key) ∈ kS L ↔ x ∈ L := by simp [kS]
theorem at_kS {x : Str} {L : List Str} {j : Nat} (h : (kS L)[j]? = some (Sum.inr x)) : L[j]? = some x := by
  unfold kS at h
  rw [List.getElem?_map] at h
  cases e : L[j]? with
  | none => rw [e] at h; cases h
  | some y => rw [e] at h; cases h; rfl
theorem idx_dN {β : Type} {x : Str} {L : List Str} {g : Str → β} (h : x ∈ L) : ∃ j, idxK (Sum.inr x : Key) (kS L) = some j ∧ (L.map g)[j]? = some (g x) := by
  obtain ⟨j, h1, h2⟩ := idxK_mem (mem_kS.mpr h)
  exact ⟨j, h1, by rw [List.getElem?_map, at_kS h2]; rfl⟩
section
variable {L : List Str} {f : Str → D} {x : Str} {S : Sto} {i : Nat} {p : List Nat} {d : D} {ρ : List (Option SV)} {μ : List SV}
@[simp] theorem dgX_dN {ro : R} : dgX ro (.str x) S (dN L f) = some (if x ∈ L then some (.d (f x)) else none) := by
  unfold dN
  rw [s_dgN]
  by_cases h : x ∈ L
  · obtain ⟨j, h1, h2⟩ := idx_dN (g := fun y => SV.dat (f y)) h
    rw [if_pos h]
    have e1 : nidx (.dK (kS L)) (.str x) = some (some j) := by simp [nidx, h1]
    rw [e1, Option.bind_some]
    dsimp only
    rw [h2]; rfl
  · rw [if_neg h]
    simp [nidx, idxK_not (fun z => h (mem_kS.mp z))]
theorem look_kS {x : Str} {g : Str → SV} : ∀ {L : List Str}, look (Sum.inr x : Key) (kS L) (L.map g) = if x ∈ L then some (g x) else none
  | [] => by simp [look, kS]
  | y :: L => by
    show look (Sum.inr x : Key) (Sum.inr y :: kS L) (g y :: L.map g) = _
    rw [look]
    by_cases e : y = x
    · subst e; simp
    · rw [if_neg (fun z => e (Sum.inr.inj z)), look_kS]
      have e' : x ≠ y := fun z => e z.symm
      simp [e']
theorem nget_dN : nget (.dK (kS L)) (L.map fun y => SV.dat (f y)) (.str x) = some (if x ∈ L then some (.dat (f x)) else none) := by
  unfold nget
  simp only [s_key_s, Option.map_some, look_kS]
theorem nget_dD : nget (.dK (kS L)) ((L.map f).map SV.dat) (.str x) = some (if x ∈ L then some (.dat (f x)) else none) := by
  rw [List.map_map]; exact nget_dN
@[simp] theorem dgX_dD {ro : R} : dgX ro (.str x) S (.dat (dD L f)) = some (if x ∈ L then some (.d (f x)) else none) := by
  unfold dD
  show ((SV.dat (.wK (kS L) (L.map f))).dget S (.str x)).bind got2 = _
  show (nget (.dK (kS L)) ((L.map f).map SV.dat) (.str x)).bind got2 = _
  rw [nget_dD]
  by_cases h : x ∈ L <;> simp [h, got2]
noncomputable def more (L : List Str) (x : Str) : List Str := if x ∈ L then L else L ++ [x]
theorem peeks_dN : peeks (L.map fun y => SV.dat (f y)) = some (L.map f) := by
  induction L with
  | nil => rfl
  | cons y L ih => rw [List.map_cons]; unfold peeks; rw [ih]; rfl
theorem lk_dN : lkD (dN L f) = some (dD L f) := by
  unfold dN
  show (peeks (L.map fun y => SV.dat (f y))).bind (fun ds => wkD (.dK (kS L)) ds) = _
  rw [peeks_dN]; rfl
@[simp] theorem lkSV_dN : lkSV (dN L f) = .dat (dD L f) := by unfold lkSV; rw [lk_dN]
@[simp] theorem keys_dD : itsD (dD L f) = some (L.map D.str) := by
  unfold dD kS
  rw [itsD_wK, List.map_map]; rfl
@[simp] theorem isD_dN : SV.isD S (dN L f) = true := rfl
@[simp] theorem isD_dD : SV.isD S (.dat (dD L f)) = true := rfl
@[simp] theorem pairs_dD : pairsW (.dat (dD L f)) = some (L.map fun y => .tup [.str y, f y]) := by
  unfold dD
  rw [pairsW_k]
  congr 1
  unfold kS
  rw [List.zip_map', List.map_map]; rfl
@[simp] theorem s_ixWK {ra : R} {k : D} {ks : List Key} {ds : List D} : ixK ra S k (.dat (.wK ks ds)) = (dgX ra k S (.dat (.wK ks ds))).bind fun o => o.map fun r => (r, S) := rfl
@[simp] theorem s_ixWT {ra : R} {k : D} {ks : List (List Key)} {ds : List D} : ixK ra S k (.dat (.wT ks ds)) = (dgX ra k S (.dat (.wT ks ds))).bind fun o => o.map fun r => (r, S) := rfl
end
end L3
namespace L3
open PySem PySem.Spec PyProof.Rows L2
section
variable {L : List Str} {g : Str → List SV} {x : Str} {i j : Nat} {ρ : List (Option SV)} {μ : List SV} {y : SV}
end
end L3
namespace L3
open PySem PySem.Spec PyProof.Rows L2
section
variable {L : List Str} {f g : Str → D} {x : Str} {d : D} {ρ : List (Option SV)} {μ : List SV} {c : Nat} {ra : R}
end
end L3
namespace L3
open PySem PySem.Spec PyProof.Rows L2
section
variable {F : FnS} {dfl : List SV} {fA : FA} {S : Sto} {Q : R → Sto → Prop} {X : Ex → Sto → Prop} {ρ : List (Option SV)} {μ : List SV}
@[simp] theorem wb_goL : Wb (fGoL F dfl fA) S Q X = Wb fA S (fun rs S1 => (rs.all nlR && S1.ρ.all nlo) = true ∧ Ob (lends rs S1) fun as => Wf F (as ++ dfl) S1.μ (fun x μ' => ∃ d, x = .dat d ∧ (d.lo && slos μ') = true ∧ Q (.d d) ⟨S1.ρ, μ'⟩) (fun _ _ => False)) X := by
  unfold fGoL; rw [wb_bind]; refine wb_ext fun rs S1 => ?_
  by_cases hn : (rs.all nlR && S1.ρ.all nlo) = true
  · unfold Wb Wf
    simp only [hn, if_true, true_and]
    cases e : lends rs S1 with
    | none => simp [e]
    | some as =>
      simp only [e, Option.bind_some, ob_some]
      cases e2 : F (as ++ dfl) S1.μ with
      | none => simp
      | some r =>
        cases r with
        | exc => simp
        | ok x μ =>
          cases x with
          | node => simp
          | cell => simp
          | dat d =>
            by_cases hs : (d.lo && slos μ) = true
            · simp [hs, -Bool.and_eq_true]
            · simp [hs, -Bool.and_eq_true]
  · unfold Wb
    simp only [hn, if_neg, false_and]
    simp
@[simp] theorem s_lend : ∀ {r : R}, R.lend S r = (r.sv S).bind fun y => match y with
    | .cell k => some (.cell k)
    | x => x.peek.map .dat := fun {r} => by
  unfold R.lend
  cases r.sv S with
  | none => rfl
  | some x => cases x <;> rfl
@[simp] theorem s_lends0 : lends [] S = some [] := rfl
@[simp] theorem s_lends1 {r : R} {rs : List R} {k : List SV → Prop} : Ob (lends (r :: rs) S) k = Ob (r.lend S) fun x => Ob (lends rs S) fun xs => k (x :: xs) := by
  show Ob ((r.lend S).bind fun x => (lends rs S).map fun xs => x :: xs) k = _
  cases r.lend S with
  | none => simp
  | some x => cases lends rs S <;> simp
@[simp] theorem nl_dat {d : D} : SV.nl (.dat d) = true := rfl
@[simp] theorem nl_cell {c : Nat} : SV.nl (.cell c) = true := rfl
@[simp] theorem nl_node {n : Nd} {xs : List SV} : SV.nl (.node n xs) = (ndL n xs && nls xs) := rfl
@[simp] theorem ndL_l {xs : List SV} : ndL .lst xs = !hdS xs := rfl
@[simp] theorem ndL_k {ks : List Key} {xs : List SV} : ndL (.dK ks) xs = true := rfl
@[simp] theorem ndL_t {ks : List (List Key)} {xs : List SV} : ndL (.dT ks) xs = true := rfl
@[simp] theorem nls_0 : nls [] = true := rfl
@[simp] theorem nls_1 {x : SV} {xs : List SV} : nls (x :: xs) = (x.nl && nls xs) := rfl
@[simp] theorem nls_app {xs ys : List SV} : nls (xs ++ ys) = (nls xs && nls ys) := by
  induction xs with
  | nil => simp
  | cons x xs ih => rw [List.cons_append, nls_1, ih, nls_1, Bool.and_assoc]
@[simp] theorem nls_map {α : Type} {f : α → D} {xs : List α} : nls (xs.map fun x => .dat (f x)) = true := by
  induction xs with
  | nil => rfl
  | cons x xs ih => rw [List.map_cons, nls_1, ih]; rfl
@[simp] theorem hdS_0 : hdS [] = false := rfl
@[simp] theorem hdS_s {x : Str} {xs : List SV} : hdS (.dat (.str x) :: xs) = false := rfl
@[simp] theorem hdS_t {ds : List D} {xs : List SV} : hdS (.dat (.tup ds) :: xs) = false := rfl
@[simp] theorem hdS_ms {α : Type} {f : α → Str} {xs : List α} : hdS (xs.map fun x => .dat (.str (f x))) = false := by cases xs <;> rfl
@[simp] theorem hdS_mt {α : Type} {f : α → List D} {xs : List α} : hdS (xs.map fun x => .dat (.tup (f x))) = false := by cases xs <;> rfl
@[simp] theorem nlo_s {x : SV} : nlo (some x) = x.nl := rfl
@[simp] theorem nlo_n : nlo none = true := rfl
@[simp] theorem nlR_b {i : Nat} {p : List Nat} : nlR (.bor i p) = true := rfl
@[simp] theorem nlR_v {x : SV} : nlR (.val x) = x.nl := rfl
@[simp] theorem lo_int {i : Int} : D.lo (.int i) = true := rfl
@[simp] theorem lo_str {x : Str} : D.lo (.str x) = true := rfl
@[simp] theorem lo_bl {b : Bool} : D.lo (.bl b) = true := rfl
end
end L3
namespace L3
open PySem PySem.Spec PyProof.Rows L2
section
variable {fo fe : FE} {S : Sto} {P : SO → Prop} {ρ : List (Option SV)} {μ : List SV} {i : Nat} {L : List Str} {ds : List D} {r : R}
@[simp] theorem ws_extendA : Ws (fExtendA fo fe) S P = Wb fo S (fun ro S1 => Ob (ro.sv S1) fun x => match x with
    | .node .lst _ => Wb fe S1 (fun re S2 => Ob (re.ita S2) fun td => Ob (extAt ro td.2 S2) fun S3 => P (.nx S3)) (fun e S1 => P (.exc e S1))
    | _ => False) (fun e S1 => P (.exc e S1)) := by
  unfold fExtendA; rw [ws_bind]; refine wb_ext fun ro S1 => ?_
  cases ex : ro.sv S1 with
  | none => unfold Ws; simp [ex]
  | some x =>
    cases x with
    | dat d => unfold Ws; simp [ex]
    | cell c => unfold Ws; simp [ex]
    | node n xs =>
      cases n with
      | lst =>
        simp only [ob_some]
        have e : Ws (fun S1 => match ro.sv S1 with
          | some (.node .lst _) => bindS fe (fun re S2 => match re.ita S2 with
            | some td => (extAt ro td.2 S2).map SO.nx
            | none => none) S1
          | _ => none) S1 P = Ws (bindS fe (fun re S2 => match re.ita S2 with
            | some td => (extAt ro td.2 S2).map SO.nx
            | none => none)) S1 P := by unfold Ws; simp [ex]
        refine e.trans ?_; rw [ws_bind]; refine wb_ext fun re S2 => ?_; unfold Ws
        cases ek : re.ita S2 with
        | none => simp [ek]
        | some td => cases e2 : extAt ro td.2 S2 <;> simp [ek, e2]
      | _ => unfold Ws; simp [ex]
@[simp] theorem ita_tup : R.ita S (.val (.dat (.tup ds))) = some (true, ds) := rfl
@[simp] theorem s_slN {ra : R} {n : Nd} {xs : List SV} {lo hi : Option Int} : slK ra S lo hi (.node n xs) = match ra.its S with
    | some (false, ds) => some (.val (.own ((cutD ds lo hi).map SV.dat)), S)
    | some (true, ds) => some (.d (.tup (cutD ds lo hi)), S)
    | none => none := rfl
end
end L3
namespace L3
open PySem PySem.Spec PyProof.Rows L2
section
variable {g g' : G2} {fa fb fc fo fi : FE} {S : Sto} {Q : R → Sto → Prop} {X : Ex → Sto → Prop}
@[simp] theorem wb_chn : Wb (fChn g g' fa fb fc) S Q X = Wb fa S (fun ra S1 => Wb fb S1 (fun rb S2 => Ob (rb.peek S2) fun d => Gb (g ra rb S2) fun rz S3 => d.sc = true ∧ Ob (rz.bl S3) fun k => br k (Wb fc S3 (fun rc S4 => Gb (g' (.d d) rc S4) Q) X) (Q (.b false) S3)) X) X := by
  unfold fChn; rw [wb_bind]; refine wb_ext fun ra S1 => ?_
  rw [wb_bind]; refine wb_ext fun rb S2 => ?_
  cases e : rb.peek S2 with
  | none => unfold Wb; simp [e]
  | some d =>
    cases e2 : g ra rb S2 with
    | none => unfold Wb; simp [e, e2]
    | some z =>
      obtain ⟨rz, S3⟩ := z
      simp only [ob_some, gb_some]
      by_cases hs : d.sc = true
      · simp only [hs, true_and]
        cases e3 : rz.bl S3 with
        | none => unfold Wb; simp [e, e2, hs, e3]
        | some k =>
          simp only [ob_some]
          cases k with
          | false => unfold Wb; simp [e, e2, hs, e3]
          | true =>
            simp only [br_t]
            refine Eq.trans (b := Wb (bindE fc fun rc S4 => (g' (.d d) rc S4).map fun z => .ok z.1 z.2) S3 Q X) (by unfold Wb; simp [e, e2, hs, e3]) ?_
            rw [wb_bind]; refine wb_ext fun rc S4 => ?_
            unfold Wb
            cases e4 : g' (.d d) rc S4 <;> simp [e4]
      · unfold Wb; simp [e, e2, hs]
@[simp] theorem wb_pop : Wb (fPop fo) S Q X = Wb fo S (fun ro S1 => Ob (ro.sv S1) fun y => ∃ c, y = .cell c ∧ Gb (popC c lastI S1) fun d S2 => Q (.d d) S2) X := by
  unfold fPop; rw [wb_bind]; refine wb_ext fun ro S1 => ?_
  cases e : ro.sv S1 with
  | none => unfold Wb; simp [e]
  | some y =>
    cases y with
    | dat => unfold Wb; simp [e]
    | node => unfold Wb; simp [e]
    | cell c => unfold Wb; cases e2 : popC c lastI S1 <;> simp [e, e2]
@[simp] theorem wb_popI : Wb (fPopI fo fi) S Q X = Wb fo S (fun ro S1 => Ob (ro.sv S1) fun y => ∃ c, y = .cell c ∧ isLC c S1 = true ∧ Wb fi S1 (fun ri S2 => Ob (ri.peek S2) fun di => ∃ i, di = .int i ∧ (-(2 ^ 63) ≤ i ∧ i < 2 ^ 63) ∧ Gb (popC c (fun xs => seqIndex? i xs.length) S2) fun d S3 => Q (.d d) S3) X) X := by
  unfold fPopI; rw [wb_bind]; refine wb_ext fun ro S1 => ?_
  cases e : ro.sv S1 with
  | none => unfold Wb; simp [e]
  | some y =>
    cases y with
    | dat => unfold Wb; simp [e]
    | node => unfold Wb; simp [e]
    | cell c =>
      by_cases hl : isLC c S1 = true
      · simp only [ob_some, SV.cell.injEq, exists_eq_left', hl, true_and]
        refine Eq.trans (b := Wb (bindE fi fun ri S2 => match ri.peek S2 with
          | some (.int i) => if -(2 ^ 63) ≤ i ∧ i < 2 ^ 63 then (popC c (fun xs => seqIndex? i xs.length) S2).map fun z => .ok (.d z.1) z.2 else none
          | _ => none) S1 Q X) (by unfold Wb; simp only [e, hl, if_true] <;> rfl) ?_
        rw [wb_bind]; refine wb_ext fun ri S2 => ?_
        cases e2 : ri.peek S2 with
        | none => unfold Wb; simp [e2]
        | some di =>
          cases di with
          | int i =>
            by_cases hb : -(2 ^ 63) ≤ i ∧ i < 2 ^ 63
            · have e4 : ∀ {t : Option (Out R)}, (if -(2 ^ 63) ≤ i ∧ i < 2 ^ 63 then t else none) = t := fun {t} => if_pos hb
              unfold Wb
              simp only [e2, e4, ob_some, D.int.injEq, exists_eq_left', hb, and_self, true_and]
              cases e3 : popC c (fun xs => seqIndex? i xs.length) S2 <;> simp
            · have e4 : ∀ {t : Option (Out R)}, (if -(2 ^ 63) ≤ i ∧ i < 2 ^ 63 then t else none) = none := fun {t} => if_neg hb
              unfold Wb
              simp only [e2, e4, ob_some, D.int.injEq, exists_eq_left', hb, false_and]
              simp
          | _ => unfold Wb; simp [e2]
      · unfold Wb; simp [e, hl]
end
end L3
namespace L3
open PySem PySem.Spec PyProof.Rows L2
section
variable {fa fb fe fo fx fs : FE} {S : Sto} {Q : R → Sto → Prop} {X : Ex → Sto → Prop} {P : SO → Prop} {kk : R → Sto → Prop} {ra rb r : R} {i : Nat} {f : FS}
@[simp] theorem wb_pop2 : Wb (fPop2 fo fe fx) S Q X = Wb fo S (fun ro S1 => Ob (ro.sv S1) fun y => ∃ c, y = .cell c ∧ isTC c S1 = true ∧ Wb fe S1 (fun re S2 => Wb fx S2 (fun rx S3 => Ob (re.peek S3) fun dk => Ob (tkey dk) fun k => Gb (popT c k S3) fun o S4 => Q (match o with
    | some d => .d d
    | none => rx) S4) X) X) X := by
  unfold fPop2; rw [wb_bind]; refine wb_ext fun ro S1 => ?_
  cases e : ro.sv S1 with
  | none => unfold Wb; simp [e]
  | some y =>
    cases y with
    | dat => unfold Wb; simp [e]
    | node => unfold Wb; simp [e]
    | cell c =>
      by_cases hl : isTC c S1 = true
      · simp only [ob_some, SV.cell.injEq, exists_eq_left', hl, true_and]
        refine Eq.trans (b := Wb (bindE fe fun re => bindE fx fun rx S3 => (re.peek S3).bind fun dk => (tkey dk).bind fun k => (popT c k S3).map fun z => .ok (match z.1 with
          | some d => .d d
          | none => rx) z.2) S1 Q X) (by unfold Wb; simp only [e, hl, if_true] <;> rfl) ?_
        rw [wb_bind]; refine wb_ext fun re S2 => ?_
        rw [wb_bind]; refine wb_ext fun rx S3 => ?_
        unfold Wb
        cases e2 : re.peek S3 with
        | none => simp [e2]
        | some dk =>
          cases e3 : tkey dk with
          | none => simp [e2, e3]
          | some k => cases e4 : popT c k S3 <;> simp [e2, e3, e4]
      · unfold Wb; simp [e, hl]
@[simp] theorem wb_revS : Wb (fRevS fe fs) S Q X = Wb fe S (fun r S1 => Wb fs S1 (fun rs S2 => ∃ ds, r.sv S2 = some (.dat (.tup ds)) ∧ ∃ i, rs.peek S2 = some (.int i) ∧ ((i = 1 ∧ Q (.d (.tup ds)) S2) ∨ (i = -1 ∧ Q (.d (.tup ds.reverse)) S2))) X) X := by
  unfold fRevS; rw [wb_bind]; refine wb_ext fun r S1 => ?_
  rw [wb_bind]; refine wb_ext fun rs S2 => ?_
  unfold Wb
  cases e : r.sv S2 with
  | none => simp [e]
  | some x =>
    cases x with
    | node => simp [e]
    | cell => simp [e]
    | dat d =>
      cases d with
      | tup ds =>
        cases e2 : rs.peek S2 with
        | none => simp [e, e2]
        | some d2 =>
          cases d2 with
          | int i =>
            by_cases h1 : i = 1
            · subst h1; simp [e, e2]
            · by_cases h2 : i = -1
              · subst h2; simp [e, e2]
              · simp [e, e2, h1, h2]
          | _ => simp [e, e2]
      | _ => simp [e]
@[simp] theorem s_gNeE : Gb (gNeE ra rb S) kk = Ob (ra.sv S) fun x => Ob (rb.sv S) fun y => ∃ ks xs ys, x = .node (.dT ks) xs ∧ y = .node (.dK []) ys ∧ kk (.b (!ks.isEmpty)) S := by
  unfold gNeE
  cases e : ra.sv S with
  | none => simp
  | some x =>
    cases e2 : rb.sv S with
    | none => simp
    | some y =>
      cases x with
      | dat => simp
      | cell => simp
      | node n xs =>
        cases n <;> try (simp; done)
        cases y with
        | dat => simp
        | cell => simp
        | node m ys =>
          cases m <;> try (simp; done)
          rename_i ks
          cases ks <;> simp
@[simp] theorem ws_fzS : Ws (fFzS i f) S P = Ob ((R.bor i []).esc S) fun z => Ws f z.2 P := by
  unfold Ws fFzS
  cases e : (R.bor i []).esc S with
  | none => simp
  | some z => simp
end
end L3
namespace L3
open PySem PySem.Spec PyProof.Rows L2
section
variable {S : Sto} {P : SO → Prop} {Q : R → Sto → Prop} {X : Ex → Sto → Prop} {C : Addr} {tbl : List (Addr × Bool)} {i : Nat} {fsu fb : FS} {fe : FE}
@[simp] theorem ws_raiseC : Ws (fRaiseC C) S P = P (.exc ⟨.ref C, []⟩ S) := by unfold Ws fRaiseC; simp
theorem ws_tryH : Ws (fTryH tbl i fsu fb) S P = Ws fb S (fun o => match o with
    | .exc e S1 => ∃ c b, e.cls = .ref c ∧ tbl.lookup c = some b ∧ (b = true → i < S1.ρ.length ∧ Ws fsu { S1 with ρ := S1.ρ.set i (some (.dat (.exc c (e.fs.map (·.1)) (e.fs.map (·.2))))) } fun o => match o with
        | .nx S2 => P (.nx (S2.wipe [i]))
        | .bk S2 => P (.bk (S2.wipe [i]))
        | .ct S2 => P (.ct (S2.wipe [i]))
        | .rt x μ => P (.rt x μ)
        | .exc _ _ => False) ∧ (b = false → P (.exc e S1))
    | o => P o) := by
  unfold Ws fTryH
  cases e0 : fb S with
  | none => simp
  | some o =>
    cases o with
    | nx S1 => simp
    | bk S1 => simp
    | ct S1 => simp
    | rt x μ => simp
    | exc e S1 =>
      obtain ⟨cls, fs⟩ := e
      simp only [Option.some.injEq, exists_eq_left']
      cases cls with
      | ref c =>
        dsimp only
        cases el : tbl.lookup c with
        | none => simp [el]
        | some b =>
          cases b with
          | false => simp [el]
          | true =>
            by_cases hi : i < S1.ρ.length
            · simp only [hi, if_true]
              cases e3 : fsu { S1 with ρ := S1.ρ.set i (some (.dat (.exc c (fs.map (·.1)) (fs.map (·.2))))) } with
              | none => simp [el, e3]
              | some o3 => cases o3 <;> simp [el, e3, hi]
            · simp [el, hi]
      | _ => simp
@[simp] theorem wb_isH : Wb (fIsH tbl fe) S Q X = Wb fe S (fun r S1 => Ob (r.peek S1) fun d => ∃ c ds, d = .exc c [] ds ∧ Ob (tbl.lookup c) fun b => Q (.d (.bl b)) S1) X := by
  unfold fIsH; rw [wb_bind]; refine wb_ext fun r S1 => ?_
  unfold Wb
  cases e : r.peek S1 with
  | none => simp only [e] <;> simp
  | some d =>
    simp only [e]
    cases d with
    | exc c ns ds =>
      cases ns with
      | nil =>
        cases el : tbl.lookup c with
        | none => simp [el]
        | some b => simp [el]
      | cons => simp
    | _ => simp
end
end L3
namespace L3
open PySem PySem.Spec PyProof.Rows L2
section
variable {X : Cx} {x : Str} {P : Addr} {mc : Value} {e : Expr} {es : List Expr} {ta : L2.TA} {p p1 p2 pos : Pos}
end
end L3
namespace L3
open PySem PySem.Spec PyProof.Rows L2
noncomputable def spI (K : PySem.W.Frag) (C : Addr) (fld : Str) (ok : V → Prop) : Sp := fun vs H Q _ => ∃ a v, vs = [.ref a, v] ∧ ok v ∧ H a = some (exo a C none) ∧ ∀ dx, H dx = none → dx ≠ a → Q .non (upd (upd H dx (exd dx [(fld, v)])) a (exo a C (some dx)))
noncomputable def fRaiseO (c : Addr) (fld : Str) (okD : D → Bool) (fa : FA) : FS := bindS fa fun rs S => match escs rs S with
  | some ([d], S1) => if okD d = true then some (.exc ⟨.ref c, [(fld, d)]⟩ S1) else none
  | _ => none
section
variable {K : PySem.W.Frag} {W : WX} {C : Addr} {fld : Str} {ok : V → Prop} {okD : D → Bool} {ta : TA} {fa : FA}
end
end L3
namespace L3
open PySem PySem.Spec PyProof.Rows L2
section
variable {X : Cx} {e : Expr} {te : TE} {n : Str} {pos : Pos}
end
end L3
namespace L3
open PySem PySem.Spec PyProof.Rows L2
noncomputable def fFldH (f : Str) (okC : Addr → Bool) (fe : FE) : FE := bindE fe fun r S => match r.sv S with
  | some (.dat (.exc c ns ds)) => if okC c = true then ((ns.zip ds).lookup f).map fun d => .ok (.d d) S else none
  | _ => none
section
variable {X : Cx} {W : WX} {e : Expr} {te : TE} {fe : FE} {n : Str} {okC : Addr → Bool} {pos : Pos}
end
end L3
namespace L3
open PySem PySem.Spec PyProof.Rows L2
section
variable {S : Sto} {P : SO → Prop} {Q : R → Sto → Prop} {X : Ex → Sto → Prop} {C : Addr} {f : Str} {okD : D → Bool} {okC : Addr → Bool} {fa : FA} {fe : FE}
@[simp] theorem ws_raiseO : Ws (fRaiseO C f okD fa) S P = Wb fa S (fun rs S1 => Gb (escs rs S1) fun ds S2 => ∃ d, ds = [d] ∧ okD d = true ∧ P (.exc ⟨.ref C, [(f, d)]⟩ S2)) (fun e S1 => P (.exc e S1)) := by
  unfold fRaiseO; rw [ws_bind]; refine wb_ext fun r S1 => ?_; unfold Ws
  cases e : escs r S1 with
  | none => simp [e]
  | some z =>
    obtain ⟨ds, S2⟩ := z
    match ds with
    | [] => simp [e]
    | [d] => by_cases h : okD d = true <;> simp [e, h]
    | a :: b :: r => simp [e]
@[simp] theorem wb_fldH : Wb (fFldH f okC fe) S Q X = Wb fe S (fun r S1 => Ob (r.sv S1) fun x => ∃ c ns ds, x = .dat (.exc c ns ds) ∧ okC c = true ∧ Ob ((ns.zip ds).lookup f) fun d => Q (.d d) S1) X := by
  unfold fFldH; rw [wb_bind]; refine wb_ext fun r S1 => ?_
  unfold Wb
  cases e : r.sv S1 with
  | none => simp only [e] <;> simp
  | some x =>
    simp only [e]
    cases x with
    | dat d =>
      cases d with
      | exc c ns ds =>
        by_cases h : okC c = true
        · cases e2 : (ns.zip ds).lookup f with
          | none =>
            simp [h, e2]
          | some d =>
            simp [h, e2]
            constructor
            · intro q; exact ⟨c, ns, ds, ⟨rfl, rfl, rfl⟩, h, by simp [e2, q]⟩
            · rintro ⟨c', ns', ds', ⟨rfl, rfl, rfl⟩, _, q⟩
              simpa [e2] using q
        · simp [h]
          try (rintro c' ns' ds' rfl rfl rfl z; exact absurd z h)
      | _ => simp
    | _ => simp
end
end L3
namespace L3
open PySem PySem.Spec PyProof.Rows L2
structure GTab (K : PySem.W.Frag) (mg : Str → Option Value) (x : Str) (tds : List (Str × D)) : Prop where
  ex : ∃ (g : Addr) (es : Array DictEntry) (ep : Nat) (tab : List (Str × (V × D))), mg x = some (.ref g) ∧ (g == sysModules) = false ∧ K.lookup g = some ⟨.type "dict", none, .dict es ep, #[]⟩ ∧
    KTD.Rows (fun (z : V × D) u => RelV z.1 u ∧ ∀ H, Rp K H z.1 z.2) es.toList tab ∧ tab.map (fun z => (z.1, z.2.2)) = tds
section
variable {prog : Program} {w : World} {A : Around} {E : Value → Shared → Prop} {s : Shared} {g : Addr} {o : Obj} {es : Array DictEntry} {ep : Nat} {k : Str} {tk : Tok} {tab : List (Str × (V × D))} {R : V × D → Value → Prop}
end
noncomputable def fIxGT (tds : List (Str × D)) (fe : FE) : FE := bindE fe fun r S => match r.peek S with
  | some (.str k) => (KTD.datumAt k tds).map fun d => .ok (.d d) S
  | _ => none
noncomputable def fInGT (neg : Bool) (tds : List (Str × D)) (fe : FE) : FE := bindE fe fun r S => match r.peek S with
  | some (.str k) => some (.ok (.b (xor neg (KTD.datumAt k tds).isSome)) S)
  | _ => none
section
variable {X : Cx} {W : WX} {e : Expr} {p pos : Pos} {te : TE} {fe : FE} {x : Str} {tds : List (Str × D)}
end
noncomputable abbrev FTab := List (Str × FnS)
noncomputable def fGoF (i : Nat) (tab : FTab) (fa : FA) : FE := fun S => match S.ρ[i]? with
  | some (some (.dat (.fn x))) => match KTD.datumAt x tab with
    | some F => fGo F [] fa S
    | none => none
  | _ => none
inductive FTabOk (P : Program) (w : World) (K : PySem.W.Frag) (mg : Str → Option Value) (base : Heap) (k n : Nat) : FTab → Prop
  | nil : FTabOk P w K mg base k n []
  | cons {x : Str} {j : Nat} {F : FnS} {tab : FTab} : Df P w K mg base j x n F [] [] → j ≤ k → FTabOk P w K mg base k n tab → FTabOk P w K mg base k n ((x, F) :: tab)
section
variable {X : Cx} {W : WX} {e : Expr} {es : List Expr} {p pos : Pos} {t : TA} {fA : FA} {k k' n i : Nat} {x : Str} {tab : FTab}
end
end L3
namespace L3
open PySem PySem.Spec PyProof.Rows L2
noncomputable def keyOf (F : FnS) (d : D) : Option D := match F [.dat d] [] with
  | some (.ok (.dat k) _) => some k
  | _ => none
noncomputable def pyK (F : FnS) (d : D) : PyData := ((keyOf F d).bind D.py).getD .none
noncomputable def sortK (F : FnS) (ds : List D) : List D := ds.mergeSort (PySem.W.dataLe false (pyK F))
noncomputable def canK (F : FnS) (ds : List D) : Bool := decide (ds.length ≤ 4000) && ds.all (fun d => ((keyOf F d).bind D.py).isSome && decide ((pyK F d).depth ≤ 60)) && ds.all fun d => ds.all fun e => rkA (pyK F d) (pyK F e)
section
variable {X : Cx} {pins : List (Addr × Obj)} {σ : L2.St} {H : Hp} {s : Shared}
end
section
variable {prog : Program} {w : World} {A : Around} {E : Value → Shared → Prop} {s : Shared}
end
section
variable {X : Cx} {pins : List (Addr × Obj)} {σ : L2.St} {H : Hp} {s : Shared}
end
end L3
namespace L3
open PySem PySem.Spec PyProof.Rows L2
noncomputable def fSortK (F : FnS) (fe : FE) : FE := bindE fe fun r S => match r.its S with
  | some (_, ds) => if canK F ds = true then some (.ok (.val (.own ((sortK F ds).map SV.dat))) S) else none
  | none => none
section
variable {X : Cx} {W : WX} {e : Expr} {p gp kp pos : Pos} {te : TE} {fe : FE} {g : Str} {F : FnS} {k k' : Nat}
end
end L3
namespace L3
open PySem PySem.Spec PyProof.Rows L2
noncomputable abbrev TupK (P : Program) (w : World) (h : Heap) (k : List Key) (b : Addr) : Prop := IsTupleKey (mixKind P w) h k b
noncomputable abbrev hT (P : Program) (w : World) (k : List Key) : Int := tupleKeyHash (mixKind P w) k
section
variable {P : Program} {w : World} {A : Around} {E : Value → Shared → Prop} {s : Shared}
end
noncomputable abbrev rowT (P : Program) (w : World) (q : Addr × List Key) : Int × Value := (hT P w q.2, .ref q.1)
noncomputable abbrev hsT (P : Program) (w : World) (L : List (Addr × List Key)) : List Int := L.map fun q => hT P w q.2
structure SetB (P : Program) (w : World) (h : Heap) (a : Addr) (L : List (Addr × List Key)) (es : Array (Int × Value)) (ep : Nat) (t : SetTable) : Prop where
  ob : ∃ o, h.get? a = some o ∧ o.ExactSet ∧ o.data = .set es ep t
  rows : es.toList = L.map (rowT P w)
  tab : TabOk t (hsT P w L)
  tup : ∀ q ∈ L, TupK P w h q.2 q.1
  nd : (L.map Prod.snd).Nodup
  led : w.params.followText "set-order" = true ∨ t.led = true
  room : L.length * 5 < t.mask * 3
  few : L.length < 64
section
variable {P : Program} {w : World} {A : Around} {E : Value → Shared → Prop} {s : Shared} {h : Heap} {a : Addr} {L : List (Addr × List Key)} {es : Array (Int × Value)} {ep : Nat} {t : SetTable}
end
end L3
namespace L3
open PySem PySem.Spec PyProof.Rows L2
section
variable {P : Program} {w : World} {A : Around} {E : Value → Shared → Prop} {s : Shared} {a : Addr} {L : List (Addr × List Key)} {es : Array (Int × Value)} {ep : Nat} {t : SetTable}
end
end L3
namespace L3
open PySem PySem.Spec PyProof.Rows L2
section
variable {P : Program} {w : World} {A : Around} {E : Value → Shared → Prop} {s : Shared} {a : Addr} {L : List (Addr × List Key)} {es : Array (Int × Value)} {ep : Nat} {t : SetTable}
end
end L3
namespace L3
open PySem PySem.Spec PyProof.Rows L2
section
variable {P : Program} {w : World} {A : Around} {R : Result → Shared → Prop} {I : Addr} {fp wr : List Addr} {G : Array GenState → Array GenState → Prop} {n : Nat} {Pv : Nat → Value → Prop} {St : Nat → Shared → Prop}
end
end L3
namespace L3
open PySem PySem.Spec PyProof.Rows L2
section
variable {P : Program} {w : World} {A : Around} {E : Value → Shared → Prop} {s : Shared}
end
end L3
namespace L3
open PySem PySem.Spec PyProof.Rows L2
structure SetB0 (P : Program) (w : World) (h : Heap) (a : Addr) (L : List (Addr × List Key)) : Prop where
  ex : ∃ (o : Obj) (es : Array (Int × Value)) (ep : Nat) (t : SetTable), h.get? a = some o ∧ o.ExactSet ∧ o.data = .set es ep t ∧ es.toList = L.map (rowT P w) ∧ TabOk t (hsT P w L) ∧ (w.params.followText "set-order" = true ∨ t.led = true) ∧ L.length * 5 < t.mask * 3
  nd : (L.map Prod.snd).Nodup
  few : L.length < 64
section
variable {P : Program} {w : World} {A : Around} {E : Value → Shared → Prop} {s : Shared}
end
end L3
namespace L3
open PySem PySem.Spec PyProof.Rows L2
noncomputable def keysT : List D → Option (List (List Key))
  | [] => some []
  | .tup ds :: r => (keysD ds).bind fun k => (keysT r).map fun ks => k :: ks
  | _ => none
section
variable {X : Cx}
end
noncomputable def fLenSetT (fe : FE) : FE := bindE fe fun r S => match r.its S with
  | some (_, ds) => (keysT ds).bind fun ks => if ks.length < 63 then some (.ok (.i (dd ks).length) S) else none
  | none => none
section
variable {X : Cx} {W : WX} {e : Expr} {p p2 q pos : Pos} {te : TE} {fe : FE}
end
end L3
namespace L3
open PySem PySem.Spec PyProof.Rows L2
theorem rps_times {K : PySem.W.Frag} {H : Hp} {vs : List V} {ds : List D} (r : Rps K H vs ds) : ∀ n : Nat, Rps K H (List.replicate n vs).flatten (List.replicate n ds).flatten
  | 0 => .nil
  | n + 1 => by
    rw [List.replicate_succ, List.replicate_succ, List.flatten_cons, List.flatten_cons]
    exact r.append (rps_times r n)
section
variable {X : Cx} {W : WX} {a b e : Expr} {es : List Expr} {p pos : Pos} {ta tb : TE} {fa fb : FE} {t : TA} {fA : FA}
noncomputable def intD : List D → Option D
  | [.int i] => some (.int i)
  | [.bl k] => some (.int (if k then 1 else 0))
  | _ => none
noncomputable def rInt : List V → Hp → VK → Prop := fun xs H Q => (∃ i, xs = [.int i] ∧ Q (.int i) H) ∨ ∃ k, xs = [.bl k] ∧ Q (.int (if k then 1 else 0)) H
theorem bok_int {K : PySem.W.Frag} : BOk K rInt (gD intD) := bok_D fun H vs ds z rr e Q q => by
  unfold intD at e
  split at e
  · cases e
    cases rr with
    | cons r rs => cases rs; cases r; exact .inl ⟨_, rfl, q _ fun _ => .int _⟩
  · cases e
    cases rr with
    | cons r rs => cases rs; cases r; exact .inr ⟨_, rfl, q _ fun _ => .int _⟩
  · cases e
theorem de_int1 (hm : X.mg "int" = none) (ha : DA X W (e :: es) t fA) (hg : Gl X "int" := by rfl) (he : starEach (e :: es) X.env = (false, eval e X.env) :: starEach es X.env := by rfl) (hpl : (backTo pos (starEach es X.env)).any (·.1) = false := by rfl) :
    DE X W (.Call (.Name "int" p) (e :: es) [] pos) (tCB rInt t) (fB (gD intD) fA) := de_BT call_int1 bok_int (by decide +kernel) hm ha hg (by decide) (by decide) he hpl
end
section
variable {X : Cx} {W : WX} {k k' n : Nat} {f : Addr} {fd : FuncData} {ps ks : List Str} {sp : Sp} {x : Str} {p pos : Pos} {kws : List Keyword} {tk : TA} {fK : FA} {g : List Value → List Value → List Value} {gV : List V → List V → List V} {F : FnS} {dvs : List V} {dfl : List SV} {ss : List Src}
end
end L3
namespace L3
open PySem PySem.Spec PyProof.Rows L2
noncomputable def sortInts (xs : List Int) : List Int := xs.mergeSort fun a b => decide (a ≤ b)
theorem sortInts_perm {xs : List Int} : (sortInts xs).Perm xs := List.mergeSort_perm _ _
@[simp] theorem sortInts_mem {xs : List Int} {x : Int} : x ∈ sortInts xs ↔ x ∈ xs := sortInts_perm.mem_iff
section
variable {X : Cx}
end
noncomputable def intK : Key → Option Int
  | .inl x => some x
  | .inr _ => none
noncomputable def intsK : List Key → Option (List Int)
  | [] => some []
  | k :: ks => (intK k).bind fun x => (intsK ks).map fun xs => x :: xs
noncomputable def fSortSetI (fe : FE) : FE := bindE fe fun r S => match r.its S with
  | some (_, ds) => (keysD ds).bind fun ks => (intsK ks).bind fun is => if ks.length < 4000 then some (.ok (.val (.own ((sortInts (dd is)).map fun z => .dat (.int z)))) S) else none
  | none => none
section
variable {X : Cx} {W : WX} {e : Expr} {p p2 q pos : Pos} {te : TE} {fe : FE}
end
end L3
namespace L3
open PySem PySem.Spec PyProof.Rows L2
section
variable {S : Sto} {P : SO → Prop} {Q : R → Sto → Prop} {X : Ex → Sto → Prop} {fa : FA} {fe : FE} {F : FnS} {tds : List (Str × D)} {neg : Bool} {i : Nat} {tab : FTab} {ρ : List (Option SV)} {μ : List SV}
@[simp] theorem wb_xStuck : Wb xStuck S Q X = False := by unfold Wb xStuck; simp
@[simp] theorem wb_ixGT : Wb (fIxGT tds fe) S Q X = Wb fe S (fun r S1 => Ob (r.peek S1) fun d => ∃ k, d = .str k ∧ Ob (KTD.datumAt k tds) fun d => Q (.d d) S1) X := by
  unfold fIxGT; rw [wb_bind]; refine wb_ext fun r S1 => ?_
  unfold Wb
  cases e : r.peek S1 with
  | none => simp [e]
  | some d =>
    cases d with
    | str k => cases e2 : KTD.datumAt k tds <;> simp [e, e2]
    | _ => simp [e]
@[simp] theorem wb_inGT : Wb (fInGT neg tds fe) S Q X = Wb fe S (fun r S1 => Ob (r.peek S1) fun d => ∃ k, d = .str k ∧ Q (.b (xor neg (KTD.datumAt k tds).isSome)) S1) X := by
  unfold fInGT; rw [wb_bind]; refine wb_ext fun r S1 => ?_
  unfold Wb
  cases e : r.peek S1 with
  | none => simp [e]
  | some d => cases d <;> simp [e]
@[simp] theorem wb_goF : Wb (fGoF i tab fa) ⟨ρ, μ⟩ Q X = Ob (ρ[i]?) fun o => Ob o fun x => ∃ f, x = .dat (.fn f) ∧ Ob (KTD.datumAt f tab) fun F => Wb (fGo F [] fa) ⟨ρ, μ⟩ Q X := by
  unfold fGoF
  cases e : ρ[i]? with
  | none => unfold Wb; simp [e]
  | some o =>
    cases o with
    | none => unfold Wb; simp [e]
    | some x =>
      cases x with
      | node => unfold Wb; simp [e]
      | cell => unfold Wb; simp [e]
      | dat d =>
        cases d with
        | fn f =>
          cases e2 : KTD.datumAt f tab with
          | none => unfold Wb; simp [e, e2]
          | some F =>
            simp only [ob_some, SV.dat.injEq, D.fn.injEq, exists_eq_left', e2]
            unfold Wb; simp only [e, e2]
        | _ => unfold Wb; simp [e]
@[simp] theorem wb_sortK : Wb (fSortK F fe) S Q X = Wb fe S (fun r S1 => Ob (r.its S1) fun z => canK F z.2 = true ∧ Q (.val (.own ((sortK F z.2).map SV.dat))) S1) X := by
  unfold fSortK; rw [wb_bind]; refine wb_ext fun r S1 => ?_
  unfold Wb
  cases e : r.its S1 with
  | none => simp [e]
  | some z => obtain ⟨t, ds⟩ := z; by_cases h : canK F ds = true <;> simp [e, h]
@[simp] theorem wb_lenSetT : Wb (fLenSetT fe) S Q X = Wb fe S (fun r S1 => Ob (r.its S1) fun z => Ob (keysT z.2) fun ks => ks.length < 63 ∧ Q (.i (dd ks).length) S1) X := by
  unfold fLenSetT; rw [wb_bind]; refine wb_ext fun r S1 => ?_
  unfold Wb
  cases e : r.its S1 with
  | none => simp [e]
  | some z =>
    obtain ⟨t, ds⟩ := z
    cases e2 : keysT ds with
    | none => simp [e, e2]
    | some ks => by_cases h : ks.length < 63 <;> simp [e, e2, h]
@[simp] theorem wb_sortSetI : Wb (fSortSetI fe) S Q X = Wb fe S (fun r S1 => Ob (r.its S1) fun z => Ob (keysD z.2) fun ks => Ob (intsK ks) fun is => ks.length < 4000 ∧ Q (.val (.own ((sortInts (dd is)).map fun z => .dat (.int z)))) S1) X := by
  unfold fSortSetI; rw [wb_bind]; refine wb_ext fun r S1 => ?_
  unfold Wb
  cases e : r.its S1 with
  | none => simp [e]
  | some z =>
    obtain ⟨t, ds⟩ := z
    cases e2 : keysD ds with
    | none => simp [e, e2]
    | some ks =>
      cases e3 : intsK ks with
      | none => simp [e, e2, e3]
      | some is => by_cases h : ks.length < 4000 <;> simp [e, e2, e3, h]
end
@[simp] theorem datumAt_nil {α : Type} {k : Str} : KTD.datumAt k ([] : List (Str × α)) = none := rfl
@[simp] theorem datumAt_cons {α : Type} {k x : Str} {a : α} {r : List (Str × α)} : KTD.datumAt k ((x, a) :: r) = if k = x then some a else KTD.datumAt k r := by
  show (if decide (k = x) = true then some a else KTD.datumAt k r) = _
  by_cases h : k = x <;> simp [h]
end L3
namespace PySem
section
variable {prog : Program} {w : World} {A : Around} {E : Value → Shared → Prop} {s : Shared} {Q : Value → Shared → Prop} {a b : Str} {t u : Tok}
end
end PySem
namespace L3
open PySem PySem.Spec PyProof.Rows L2
noncomputable def maxTD : List D → Option D
  | [.int i, .int j] => some (.int (if j > i then j else i))
  | [.str x, .str y] => some (.str (if strLt x y = true then y else x))
  | _ => none
noncomputable def minTD : List D → Option D
  | [.int i, .int j] => some (.int (if j < i then j else i))
  | [.str x, .str y] => some (.str (if strLt y x = true then y else x))
  | _ => none
@[simp] theorem s_maxT : maxTD [.int i, .int j] = some (.int (if j > i then j else i)) := rfl
@[simp] theorem s_minT : minTD [.int i, .int j] = some (.int (if j < i then j else i)) := rfl
@[simp] theorem s_maxTS : maxTD [.str x, .str y] = some (.str (if strLt x y = true then y else x)) := rfl
@[simp] theorem s_minTS : minTD [.str x, .str y] = some (.str (if strLt y x = true then y else x)) := rfl
section
variable {X : Cx} {W : WX} {e : Expr} {es : List Expr} {p pos : Pos} {t : TA} {fA : FA}
end
end L3
namespace L3
open PySem PySem.Spec PyProof.Rows L2
noncomputable def isTupP : PyData → Bool
  | .tuple _ => true
  | _ => false
noncomputable def ltD (x y : D) : Option D := match x.py, y.py with
  | some p, some q => if PySem.W.alike p q = true ∧ isTupP p = true ∧ p.depth ≤ 60 then some (.bl (PySem.W.dataLt p q)) else none
  | _, _ => none
section
variable {X : Cx} {W : WX} {a b : Expr} {pos : Pos} {ta tb : TE} {fa fb : FE}
end
noncomputable def ixS (w : Str) : List Str → Option Nat
  | [] => none
  | x :: xs => if x = w then some 0 else (ixS w xs).map (· + 1)
noncomputable def fIdx (fo fe : FE) : FE := bindE fo fun ro S1 => match ro.peek S1 with
  | some (.lst _) => bindE fe (fun re S2 => match ro.peek S2, re.peek S2 with
    | some (.lst ds), some (.str w) => ((strsD ds).bind (ixS w)).map fun j : Nat => .ok (.i (j : Int)) S2
    | _, _ => none) S1
  | _ => none
section
variable {X : Cx} {W : WX} {o e : Expr} {apos cpos : Pos} {to te : TE} {fo fe : FE}
@[simp] theorem wb_idx {S : Sto} {Q : R → Sto → Prop} {X : Ex → Sto → Prop} : Wb (fIdx fo fe) S Q X = Wb fo S (fun ro S1 => Ob (ro.peek S1) fun d => ∃ ds, d = .lst ds ∧ Wb fe S1 (fun re S2 => Ob (ro.peek S2) fun d2 => ∃ ds, d2 = .lst ds ∧ Ob (re.peek S2) fun k => ∃ w, k = .str w ∧ Ob (strsD ds) fun ws => Ob (ixS w ws) fun j => Q (.i j) S2) X) X := by
  unfold fIdx; rw [wb_bind]; refine wb_ext fun ro S1 => ?_
  cases e1 : ro.peek S1 with
  | none => unfold Wb; simp [e1]
  | some d =>
    cases d with
    | lst ds =>
      simp only [ob_some, D.lst.injEq, exists_eq_left']
      refine Eq.trans (b := Wb (bindE fe (fun re S2 => match ro.peek S2, re.peek S2 with
        | some (.lst ds), some (.str w) => ((strsD ds).bind (ixS w)).map fun j : Nat => .ok (.i (j : Int)) S2
        | _, _ => none)) S1 Q X) (by unfold Wb; simp only [e1] <;> rfl) ?_
      rw [wb_bind]; refine wb_ext fun re S2 => ?_
      unfold Wb
      cases e2 : ro.peek S2 with
      | none => simp [e2]
      | some d2 =>
        cases d2 with
        | lst ds2 =>
          cases e3 : re.peek S2 with
          | none => simp [e2, e3]
          | some k =>
            cases k with
            | str w =>
              cases e4 : strsD ds2 with
              | none => simp [e2, e3, e4]
              | some ws => cases e5 : ixS w ws <;> simp [e2, e3, e4, e5]
            | _ => simp [e2, e3]
        | _ => simp [e2]
    | _ => unfold Wb; simp [e1]
end
end L3
namespace L3
open PySem PySem.Spec PyProof.Rows L2
noncomputable def argNl (S : Sto) : R → Bool
  | .val x => x.nl
  | .bor i _ => match S.ρ[i]? with
    | some (some x) => x.nl
    | _ => false
noncomputable def fGoM (f : FnS) (dfl : List SV) (fa : FA) : FE := bindE fa fun rs S => if rs.all (argNl S) = true then (lends rs S).bind fun as => match f (as ++ dfl) S.μ with
    | some (.ok (.dat d) μ) => if (d.lo && slos μ) = true then some (.ok (.d d) { S with μ := μ }) else none
    | _ => none
  else none
section
variable {X : Cx} {W : WX} {e : Expr} {es : List Expr} {p pos : Pos} {t : TA} {fA : FA} {k k' n : Nat} {x : Str} {F : FnS} {dvs : List V} {dfl : List SV}
@[simp] theorem argNl_v {S : Sto} {x : SV} : argNl S (.val x) = x.nl := rfl
@[simp] theorem argNl_b {ρ : List (Option SV)} {μ : List SV} {i : Nat} {p : List Nat} : argNl ⟨ρ, μ⟩ (.bor i p) = match ρ[i]? with
    | some (some x) => x.nl
    | _ => false := rfl
@[simp] theorem wb_goM {S : Sto} {Q : R → Sto → Prop} {Y : Ex → Sto → Prop} : Wb (fGoM F dfl fA) S Q Y = Wb fA S (fun rs S1 => rs.all (argNl S1) = true ∧ Ob (lends rs S1) fun as => Wf F (as ++ dfl) S1.μ (fun x μ' => ∃ d, x = .dat d ∧ (d.lo && slos μ') = true ∧ Q (.d d) ⟨S1.ρ, μ'⟩) (fun _ _ => False)) Y := by
  unfold fGoM; rw [wb_bind]; refine wb_ext fun rs S1 => ?_
  by_cases hn : rs.all (argNl S1) = true
  · unfold Wb Wf
    simp only [hn, if_true, true_and]
    cases e : lends rs S1 with
    | none => simp [e]
    | some as =>
      simp only [e, Option.bind_some, ob_some]
      cases e2 : F (as ++ dfl) S1.μ with
      | none => simp
      | some r =>
        cases r with
        | exc => simp
        | ok x μ =>
          cases x with
          | node => simp
          | cell => simp
          | dat d =>
            by_cases hs : (d.lo && slos μ) = true
            · simp [hs, -Bool.and_eq_true]
            · simp [hs, -Bool.and_eq_true]
  · unfold Wb
    simp only [hn, if_neg, false_and]
    simp
end
end L3
namespace L3
open PySem PySem.Spec PyProof.Rows L2
end L3
namespace L3
open PySem PySem.Spec PyProof.Rows L2
section
variable {P : Program} {w : World} {A : Around} {E : Value → Shared → Prop} {s : Shared} {a r : Addr} {es : Array (Int × Value)} {ep : Nat} {t : SetTable}
end
end L3
namespace L3
open PySem PySem.Spec PyProof.Rows L2
section
variable {X : Cx}
end
end L3
namespace L3
open PySem PySem.Spec PyProof.Rows L2
noncomputable def meetK (ks ls : List Key) : Bool := ks.any fun k => ls.any fun j => decide (k = j)
noncomputable def fMeet (fx fy : FE) : FE := bindE fx fun rx S1 => match rx.its S1 with
  | some (_, ds) => (keysD ds).bind fun ks => if ks.length < 4000 then bindE fy (fun ry S2 => match ry.its S2 with
      | some (_, es) => (keysD es).bind fun ls => if ls.length < 4000 then some (.ok (.b (meetK ks ls)) S2) else none
      | none => none) S1 else none
  | none => none
section
variable {X : Cx} {W : WX} {e f : Expr} {p p2 p3 q q2 q3 pos pos2 : Pos} {te tf : TE} {fe ff : FE}
end
end L3
namespace L3
open PySem PySem.Spec PyProof.Rows L2
noncomputable def R.thin : R → Bool
  | .val (.node _ _) => false
  | _ => true
noncomputable def numAt (ro : R) (k : D) (S : Sto) : Option Int := match k with
  | .int k => if 0 ≤ k ∧ k < 1000000 then match (match ro.sv S with
      | some (.cell c) => S.μ[c]?
      | o => o) with
    | some (.node .lst xs) => match xs[k.toNat]? with
      | some (.dat (.int a)) => some a
      | _ => none
    | _ => none else none
  | _ => none
noncomputable def fAugS (fo fi fe : FE) : FS := bindS fo fun ro => bindS fi fun ri S2 => if (ro.thin && ri.thin) = true then (ri.peek S2).bind fun k => (numAt ro k S2).bind fun a =>
    bindS fe (fun re S4 => match re.peek S4 with
      | some (.int b) => (storeAt ro k (.dat (.int (a + b))) S4).map SO.nx
      | _ => none) S2
  else none
section
variable {K : PySem.W.Frag} {W : WX} {to ti te : TE} {fo fi fe : FE}
end
section
variable {X : Cx} {W : WX} {o i e : Expr} {pos tpos : Pos} {to ti te : TE} {fo fi fe : FE}
end
end L3
namespace L3
open PySem PySem.Spec PyProof.Rows L2
section
variable {S : Sto} {P : SO → Prop} {Q : R → Sto → Prop} {X : Ex → Sto → Prop} {fo fi fe fx fy : FE}
@[simp] theorem wb_meet : Wb (fMeet fx fy) S Q X = Wb fx S (fun rx S1 => Ob (rx.its S1) fun td => Ob (keysD td.2) fun ks => ks.length < 4000 ∧ Wb fy S1 (fun ry S2 => Ob (ry.its S2) fun td2 => Ob (keysD td2.2) fun ls => ls.length < 4000 ∧ Q (.b (meetK ks ls)) S2) X) X := by
  unfold fMeet; rw [wb_bind]; refine wb_ext fun rx S1 => ?_
  cases e1 : rx.its S1 with
  | none => unfold Wb; simp [e1]
  | some td =>
    obtain ⟨t, ds⟩ := td
    cases e2 : keysD ds with
    | none => unfold Wb; simp [e1, e2]
    | some ks =>
      by_cases hl : ks.length < 4000
      · simp only [ob_some, e2, hl, true_and]
        refine Eq.trans (b := Wb (bindE fy (fun ry S2 => match ry.its S2 with
          | some (_, es) => (keysD es).bind fun ls => if ls.length < 4000 then some (.ok (.b (meetK ks ls)) S2) else none
          | none => none)) S1 Q X) (by unfold Wb; simp only [e1, e2, Option.bind_some, hl, if_true] <;> rfl) ?_
        rw [wb_bind]; refine wb_ext fun ry S2 => ?_
        unfold Wb
        cases e3 : ry.its S2 with
        | none => simp [e3]
        | some td2 =>
          obtain ⟨t2, es⟩ := td2
          cases e4 : keysD es with
          | none => simp [e3, e4]
          | some ls => by_cases h2 : ls.length < 4000 <;> simp [e3, e4, h2]
      · unfold Wb; simp [e1, e2, hl]
@[simp] theorem ws_augS : Ws (fAugS fo fi fe) S P = Wb fo S (fun ro S1 => Wb fi S1 (fun ri S2 => (ro.thin && ri.thin) = true ∧ Ob (ri.peek S2) fun k => Ob (numAt ro k S2) fun a => Wb fe S2 (fun re S4 => Ob (re.peek S4) fun d => ∃ b, d = .int b ∧ Ob (storeAt ro k (.dat (.int (a + b))) S4) fun S5 => P (.nx S5)) (fun e S1 => P (.exc e S1))) (fun e S1 => P (.exc e S1))) (fun e S1 => P (.exc e S1)) := by
  unfold fAugS; rw [ws_bind]; refine wb_ext fun ro S1 => ?_; rw [ws_bind]; refine wb_ext fun ri S2 => ?_
  by_cases ht : (ro.thin && ri.thin) = true
  · simp only [ht, true_and]
    cases e1 : ri.peek S2 with
    | none => unfold Ws; simp [ht, e1]
    | some k =>
      cases e2 : numAt ro k S2 with
      | none => unfold Ws; simp [ht, e1, e2]
      | some a =>
        simp only [ob_some, e2]
        refine Eq.trans (b := Ws (bindS fe (fun re S4 => match re.peek S4 with
          | some (.int b) => (storeAt ro k (.dat (.int (a + b))) S4).map SO.nx
          | _ => none)) S2 P) (by unfold Ws; simp only [ht, if_true, e1, e2, Option.bind_some] <;> rfl) ?_
        rw [ws_bind]; refine wb_ext fun re S4 => ?_
        unfold Ws
        cases e3 : re.peek S4 with
        | none => simp [e3]
        | some d =>
          cases d with
          | int b => cases e4 : storeAt ro k (.dat (.int (a + b))) S4 <;> simp [e3, e4]
          | _ => simp [e3]
  · unfold Ws; simp [ht]
@[simp] theorem thin_bor {i : Nat} {p : List Nat} : (R.bor i p).thin = true := rfl
@[simp] theorem thin_dat {d : D} : (R.val (.dat d)).thin = true := rfl
@[simp] theorem thin_cell {c : Nat} : (R.val (.cell c)).thin = true := rfl
end
end L3
namespace L3
open PySem PySem.Spec PyProof.Rows L2
noncomputable def gTimesT : G2 := fun ra rb S => match ra.its S, rb.peek S with
  | some (true, ds), some (.int k) => if 2 ≤ k ∧ k ≤ 1000 ∧ ds ≠ [] ∧ ds.length ≤ 1000 then some (.d (.tup (List.replicate k.toNat ds).flatten), S) else none
  | _, _ => none
section
variable {X : Cx} {W : WX} {a b : Expr} {pos : Pos} {ta tb : TE} {fa fb : FE}
end
@[simp] theorem gb_timesT {ra rb : R} {S : Sto} {kk : R → Sto → Prop} : Gb (gTimesT ra rb S) kk = Ob (ra.its S) fun z => z.1 = true ∧ Ob (rb.peek S) fun d => ∃ k, d = .int k ∧ (2 ≤ k ∧ k ≤ 1000 ∧ z.2 ≠ [] ∧ z.2.length ≤ 1000) ∧ kk (.d (.tup (List.replicate k.toNat z.2).flatten)) S := by
  unfold gTimesT
  cases e1 : ra.its S with
  | none => simp
  | some z =>
    obtain ⟨t, ds⟩ := z
    cases e2 : rb.peek S with
    | none => cases t <;> simp [e2]
    | some d =>
      cases t with
      | false => simp
      | true =>
        cases d with
        | int k =>
          by_cases h : 2 ≤ k ∧ k ≤ 1000 ∧ ds ≠ [] ∧ ds.length ≤ 1000
          · simp only [e2, ob_some, if_pos h, gb_some]
            simp [h]
          · simp only [e2, ob_some, if_neg h, gb_none]
            simp only [eq_iff_iff, false_iff]
            rintro ⟨_, k', hk, h', _⟩
            cases hk
            exact h h'
        | _ => simp [e2]
end L3
namespace L3
open PySem PySem.Spec PyProof.Rows L2
section
variable {X : Cx} {W : WX} {e : Expr} {es : List Expr} {p pos : Pos} {t : TA} {fA : FA}
end
end L3
namespace L3
open PySem PySem.Spec PyProof.Rows L2
section
variable {X : Cx}
end
section
variable {X : Cx} {W : WX} {e : Expr} {es : List Expr} {p pos : Pos} {t : TA} {fA : FA}
end
end L3
namespace L3
open PySem PySem.Spec PyProof.Rows L2
section
variable {X : Cx} {pins : List (Addr × Obj)} {σ : L2.St} {H : Hp} {s : Shared} {a b : Addr} {r : Value} {d : V} {k : List Key} {A : Around} {E : Value → Shared → Prop}
end
section
variable {X : Cx} {o e f : Expr} {td ty tx : TE} {apos cpos : Pos}
end
section
variable {K : PySem.W.Frag} {W : WX} {S S' : Sto} {σ : Sl} {H Φ : Hp} {A F G T Fx : List Addr} {v w iv : V}
end
noncomputable def setdCT (c : Nat) (k : List Key) (x : D) (S : Sto) : Option (D × Sto) := match S.μ[c]? with
  | some (.node (.dT ks) xs) => if ks.length < 1000000 then match idxK k ks with
      | some j => match xs[j]? with
        | some (.dat d) => some (d, S)
        | _ => none
      | none => some (x, S.cellp c (.node (.dT (ks ++ [k])) (xs ++ [.dat x])))
    else none
  | _ => none
noncomputable def keyT : D → Option (List Key)
  | .tup ds => keysD ds
  | _ => none
noncomputable def fSetdT (fo fk fx : FE) : FE := bindE fo fun ro S1 => match ro.sv S1 with
  | some (.cell c) => if (SV.cell c).isD S1 = true then bindE fk (fun rk => bindE fx fun rx S3 => match rx.sv S3 with
    | some (.dat x) => ((rk.peek S3).bind keyT).bind fun k => (setdCT c k x S3).map fun z => .ok (.d z.1) z.2
    | _ => none) S1 else none
  | _ => none
end L3
namespace L3
open PySem PySem.Spec PyProof.Rows L2
section
variable {S : Sto} {P : SO → Prop} {Q : R → Sto → Prop} {X : Ex → Sto → Prop} {fo fk fx : FE}
@[simp] theorem wb_setdT : Wb (fSetdT fo fk fx) S Q X = Wb fo S (fun ro S1 => Ob (ro.sv S1) fun y => ∃ c, y = .cell c ∧ (SV.cell c).isD S1 = true ∧ Wb fk S1 (fun rk S2 => Wb fx S2 (fun rx S3 => Ob (rx.sv S3) fun z => ∃ x, z = .dat x ∧ Ob (rk.peek S3) fun kd => Ob (keyT kd) fun k => Gb (setdCT c k x S3) fun d S4 => Q (.d d) S4) X) X) X := by
  unfold fSetdT; rw [wb_bind]; refine wb_ext fun ro S1 => ?_
  cases e : ro.sv S1 with
  | none => unfold Wb; simp [e]
  | some y =>
    cases y with
    | dat => unfold Wb; simp [e]
    | node => unfold Wb; simp [e]
    | cell c =>
      by_cases h : (SV.cell c).isD S1 = true
      · refine Eq.trans (b := Wb (bindE fk fun rk => bindE fx fun rx S3 => match rx.sv S3 with
          | some (.dat x) => ((rk.peek S3).bind keyT).bind fun k => (setdCT c k x S3).map fun z => .ok (.d z.1) z.2
          | _ => none) S1 Q X) (by unfold Wb; simp [e, h] <;> exact Iff.rfl) ?_
        simp only [ob_some, SV.cell.injEq, exists_eq_left', h, true_and]
        rw [wb_bind]; refine wb_ext fun rk S2 => ?_
        rw [wb_bind]; refine wb_ext fun rx S3 => ?_
        cases e5 : rx.sv S3 with
        | none => unfold Wb; simp [e5]
        | some z =>
          cases z with
          | node => unfold Wb; simp [e5]
          | cell => unfold Wb; simp [e5]
          | dat x =>
            simp only [ob_some, SV.dat.injEq, exists_eq_left']
            unfold Wb
            cases e6 : rk.peek S3 with
            | none => simp [e5, e6]
            | some kd =>
              cases e7 : keyT kd with
              | none => simp [e5, e6, e7]
              | some k => cases e8 : setdCT c k x S3 <;> simp [e5, e6, e7, e8]
      · unfold Wb; simp [e, h]
end
end L3
namespace L3
open PySem PySem.Spec PyProof.Rows L2
section
variable {K : PySem.W.Frag} {W : WX} {S S' : Sto} {σ : Sl} {H Φ : Hp} {A F G T : List Addr} {v : V}
end
section
variable {X : Cx} {W : WX} {o k e ie e2 ie2 : Expr} {es : List Expr} {p1 p2 p3 apos cpos lpos pos tpos pos2 tpos3 pos3 : Pos} {to tk te ti te2 ti2 : TE} {fo fk fe fi fe2 fi2 : FE} {f0 : FA} {x : Str} {i : Nat}
end
end L3
namespace L3
open PySem PySem.Spec PyProof.Rows L2
section
variable {K : PySem.W.Frag} {Φ : Hp} {H : Hp} {A : List Addr}
end
section
variable {X : Cx} {W : WX} {o ie e : Expr} {pos apos cpos : Pos} {to ti te : TE} {fo fi fe : FE}
end
end L3
namespace L3
open PySem PySem.Spec PyProof.Rows L2
section
variable {P : Program} {w : World} {A : Around} {E : Value → Shared → Prop} {s : Shared} {a : Addr} {L : List (Addr × List Key)} {es : Array (Int × Value)} {ep : Nat} {t : SetTable}
end
end L3
namespace L3
open PySem PySem.Spec PyProof.Rows L2
section
variable {P : Program} {w : World} {A : Around} {E : Value → Shared → Prop} {s : Shared} {a r : Addr} {L : List (Addr × List Key)} {es : Array (Int × Value)} {ep : Nat} {t : SetTable}
end
end L3
namespace L3
open PySem PySem.Spec PyProof.Rows L2
section
variable {P : Program} {w : World} {A : Around} {E : Value → Shared → Prop} {s : Shared} {wk ak r : Addr} {Lw La : List (Addr × List Key)} {esw esa esr : Array (Int × Value)} {epw epa epr : Nat} {tw ta tr : SetTable} {sub : Bool}
structure Apt (P : Program) (w : World) (s : Shared) (r wk ak : Addr) (Lw La : List (Addr × List Key)) (esw esa esr : Array (Int × Value)) (epw epa epr : Nat) (tw ta tr : SetTable) : Prop where
  Rw : SetB P w s.heap wk Lw esw epw tw
  Ra : SetB P w s.heap ak La esa epa ta
  Rr : SetB P w s.heap r [] esr epr tr
  nw : r ≠ wk
  na : r ≠ ak
variable (H : Apt P w s r wk ak Lw La esw esa esr epw epa epr tw ta tr)
include H
end
end L3
namespace L3
open PySem PySem.Spec PyProof.Rows L2
section
variable {P : Program} {w : World} {A : Around} {E : Value → Shared → Prop} {s : Shared} {wk ak r a b : Addr} {Lw La Lb : List (Addr × List Key)} {esw esa esb esr : Array (Int × Value)} {epw epa epb epr : Nat} {tw ta tb tr : SetTable}
end
end L3
namespace L3
open PySem PySem.Spec PyProof.Rows L2
section
variable {P : Program} {w : World} {A : Around} {E : Value → Shared → Prop} {s : Shared} {wk ak r a b : Addr} {Lw La Lb L : List (Addr × List Key)} {esw esa esb esr es : Array (Int × Value)} {epw epa epb epr ep : Nat} {tw ta tb tr t : SetTable}
end
end L3
namespace L3
open PySem PySem.Spec PyProof.Rows L2
structure SetW (P : Program) (w : World) (h : Heap) (a : Addr) (L : List (Addr × List Key)) : Prop where
  ex : ∃ (o : Obj) (es : Array (Int × Value)) (ep : Nat) (t : SetTable), h.get? a = some o ∧ o.ExactSet ∧ o.data = .set es ep t ∧ es.toList = L.map (rowT P w) ∧ t.fits es.size = true ∧ (w.params.followText "set-order" = true ∨ t.led = true) ∧ Ris t.place.toList
  nd : (L.map Prod.snd).Nodup
  few : L.length < 64
section
variable {P : Program} {w : World} {A : Around} {E : Value → Shared → Prop} {s : Shared} {a b r : Addr} {La Lb L Lr : List (Addr × List Key)} {esa esb es esr : Array (Int × Value)} {epa epb ep epr : Nat} {ta tb t tr : SetTable}
end
end L3
namespace L3
open PySem PySem.Spec PyProof.Rows L2
section
variable {P : Program} {w : World} {A : Around} {E : Value → Shared → Prop} {s : Shared} {a b r : Addr} {La Lb L Lr : List (Addr × List Key)} {esa esb es esr : Array (Int × Value)} {epa epb ep epr : Nat} {ta tb t tr : SetTable}
end
end L3
namespace L3
open PySem PySem.Spec PyProof.Rows L2
section
variable {P : Program} {w : World} {A : Around} {R : Result → Shared → Prop} {I : Addr} {fp wr : List Addr} {G : Array GenState → Array GenState → Prop} {n : Nat} {Pv : Nat → Value → Prop} {St : Nat → Shared → Prop}
end
section
variable {P : Program} {w : World} {A : Around} {E : Value → Shared → Prop} {s : Shared}
end
section
variable {X : Cx}
end
end L3
namespace L3
open PySem PySem.Spec PyProof.Rows L2
section
variable {X : Cx} {pins : List (Addr × Obj)} {σ : L2.St} {H : Hp} {s : Shared} {a : Addr} {L : List (Addr × List Key)}
end
end L3
namespace L3
open PySem PySem.Spec PyProof.Rows L2
noncomputable def ktE (k : List Key) : D := .tup (k.map keyD)
noncomputable def strictD (ds : List D) : Bool := decide (ds.Pairwise fun a b => PySem.W.dataLt (pyT a) (pyT b) = true)
section
variable {X : Cx}
end
end L3
namespace L3
open PySem PySem.Spec PyProof.Rows L2
noncomputable def opK (sub : Bool) (ks ls : List (List Key)) : List (List Key) := (dd ks).filter fun k => (ls.any fun j => decide (k = j)) != sub
noncomputable def okK (sub : Bool) (ks ls : List (List Key)) : Bool := decide (ls.length < 63) && (decide (sub = true → (dd ks).length / 4 ≤ (dd ls).length ∨ ((8 ≤ (dd ks).length ∧ (dd ks).length ≤ 15) ∧ (dd ls).length = 1)) && (canSort ((opK sub ks ls).map ktE) && strictD (sortD ((opK sub ks ls).map ktE))))
noncomputable def fSortSO (sub : Bool) (fx fy : FE) : FE := bindE fx fun rx S1 => match rx.its S1 with
  | some (_, ds) => (keysT ds).bind fun ks => if ks.length < 63 then bindE fy (fun ry S2 => match ry.its S2 with
      | some (_, es) => (keysT es).bind fun ls => if okK sub ks ls = true then some (.ok (.val (.own ((sortD ((opK sub ks ls).map ktE)).map SV.dat))) S2) else none
      | none => none) S1 else none
  | none => none
noncomputable def okS (ks : List (List Key)) : Bool := decide (ks.length < 63) && (canSort ((dd ks).map ktE) && strictD (sortD ((dd ks).map ktE)))
noncomputable def fSortST (fx : FE) : FE := bindE fx fun rx S1 => match rx.its S1 with
  | some (_, ds) => (keysT ds).bind fun ks => if okS ks = true then some (.ok (.val (.own ((sortD ((dd ks).map ktE)).map SV.dat))) S1) else none
  | none => none
end L3
namespace L3
open PySem PySem.Spec PyProof.Rows L2
section
variable {X : Cx} {W : WX} {e f : Expr} {p p2 p3 q q2 pos pos2 : Pos} {te tf : TE} {fe ff : FE}
end
section
variable {S : Sto} {Q : R → Sto → Prop} {X : Ex → Sto → Prop} {sub : Bool} {fx fy : FE}
@[simp] theorem wb_sortSO : Wb (fSortSO sub fx fy) S Q X = Wb fx S (fun rx S1 => Ob (rx.its S1) fun td => Ob (keysT td.2) fun ks => ks.length < 63 ∧ Wb fy S1 (fun ry S2 => Ob (ry.its S2) fun td2 => Ob (keysT td2.2) fun ls => okK sub ks ls = true ∧ Q (.val (.own ((sortD ((opK sub ks ls).map ktE)).map SV.dat))) S2) X) X := by
  unfold fSortSO; rw [wb_bind]; refine wb_ext fun rx S1 => ?_
  cases e1 : rx.its S1 with
  | none => unfold Wb; simp [e1]
  | some td =>
    obtain ⟨t, ds⟩ := td
    cases e2 : keysT ds with
    | none => unfold Wb; simp [e1, e2]
    | some ks =>
      by_cases hl : ks.length < 63
      · simp only [ob_some, e2, hl, true_and]
        refine Eq.trans (b := Wb (bindE fy (fun ry S2 => match ry.its S2 with
          | some (_, es) => (keysT es).bind fun ls => if okK sub ks ls = true then some (.ok (.val (.own ((sortD ((opK sub ks ls).map ktE)).map SV.dat))) S2) else none
          | none => none)) S1 Q X) (by unfold Wb; simp only [e1, e2, Option.bind_some, hl, if_true] <;> rfl) ?_
        rw [wb_bind]; refine wb_ext fun ry S2 => ?_
        unfold Wb
        cases e3 : ry.its S2 with
        | none => simp [e3]
        | some td2 =>
          obtain ⟨t2, es⟩ := td2
          cases e4 : keysT es with
          | none => simp [e3, e4]
          | some ls => by_cases h2 : okK sub ks ls = true <;> simp [e3, e4, h2]
      · unfold Wb; simp [e1, e2, hl]
@[simp] theorem wb_sortST : Wb (fSortST fx) S Q X = Wb fx S (fun rx S1 => Ob (rx.its S1) fun td => Ob (keysT td.2) fun ks => okS ks = true ∧ Q (.val (.own ((sortD ((dd ks).map ktE)).map SV.dat))) S1) X := by
  unfold fSortST; rw [wb_bind]; refine wb_ext fun rx S1 => ?_
  unfold Wb
  cases e1 : rx.its S1 with
  | none => simp [e1]
  | some td =>
    obtain ⟨t, ds⟩ := td
    cases e2 : keysT ds with
    | none => simp [e1, e2]
    | some ks => by_cases hl : okS ks = true <;> simp [e1, e2, hl]
end
end L3
namespace L3
open PySem PySem.Spec PySem.Calls PyProof.Rows L2
section
variable {prog : Program} {w : World} {A : Around} {E : Value → Shared → Prop} {s : Shared} {K : PySem.W.Frag} {x D : Addr} {ox : Obj} {od : Option Obj}
open PySem.W in
theorem findObj_dataO {C : Addr} {name : Str} {a g : Value} (hc : (clsIn K C).isSome = true) (ha : findIn K (.ref C) name = some (some a)) (hg : specialIn K a "__get__" = some (some g)) (ht : takesIn K a = some true) : findObj K C od name = some (.bind g a) := by
  obtain ⟨cd, hc⟩ := Option.isSome_iff_exists.mp hc
  unfold findObj
  rw [hc, Option.bind_some, ha, Option.bind_some]
  simp [hg, ht]
open PySem.W in
theorem kin_classO {Q : Option Value → Shared → Prop} (T : ExcC K D) (X : K.In s.heap) (I : InstAt s.heap x ox D od) (h : Q (some (.ref D)) { s with toks := s.toks + 1 }) : wpAny (model prog w) A (getAttr? (.ref x) "__class__") Q E s := by
  obtain ⟨hga, hgt, hsub, hdct, ha, hn, htk, hm⟩ := T
  have hf : findObj K D od "__class__" = some (.bind (.builtin "getset_descriptor.__get__") (.builtin "object.__class__")) := findObj_dataO (by obtain ⟨cd, hc, _⟩ := any_some hdct; rw [hc]; rfl) ha hn htk
  obtain ⟨hp, g, d, t, os⟩ := s
  have L0 := I.type (M := model prog w)
  have L1 := looks_findIn (M := model prog w) X hga
  have L2 := looks_findIn (M := model prog w) X hgt
  have L3 := looks_find (M := model prog w) X I hf
  have sub : Looks (model prog w) hp (isInstance (.ref x) (.type "BaseException")) true := L0.andThen (looks_subIn X hsub)
  have hx0 : (false && onTheHeap (Value.builtin "BaseException.__getattribute__")) = false := rfl
  have hx2 : (Value.builtin "BaseException.__getattribute__" == Value.builtin "object.__getattribute__") = false := by decide +kernel
  have hx1 : (onTheHeap (Value.ref D) && Value.builtin "BaseException.__getattribute__" == Value.builtin "object.__getattribute__") = false := by rw [hx2]; rfl
  unfold getAttr? getAttrBy? getAttrBy
  refine wpAny_bind (wpAny_mkText (wpAny_bind (wpAny_attempt (wpAny_holding (wpAny_bind (L0.at (wpAny_bind (L1.at ?_))))))))
  show wpAny _ _ (if (onTheHeap (Value.ref D) && Value.builtin "BaseException.__getattribute__" == Value.builtin "object.__getattribute__") = true then _ else _) _ _ _
  rw [hx1, if_neg Bool.false_ne_true]
  unfold getAttrByItsOwn hookBefore
  refine wpAny_bind ?_
  rw [if_pos (show onTheHeap (Value.ref D) = true from rfl)]
  refine L2.at ?_
  refine wpAny_bind (wpAny_attempt (wpAny_holding ?_))
  unfold callGetattribute
  rw [hx0, if_neg Bool.false_ne_true]
  unfold boundAndCalled
  rw [PySem.F.excAttr_ValueError.ga.bind (.ref x)]
  refine wpAny_bind (wpAny_pure ?_)
  show wpAny _ _ (call (.builtin "BaseException.__getattribute__") [.ref x, .str "__class__" t]) _ _ _
  refine wpAny_call (codeAny_call_builtin PySem.F.excAttr_ValueError.ga.plain PySem.F.entry_bexc_ga ?_)
  refine @check_slot (model prog w) _ _ ⟨hp, g, d, t + 1, os⟩ "BaseException.__getattribute__" "BaseException" "__getattribute__" (.ref x) [.str "__class__" t] [] _ (by decide +kernel) (by decide +kernel) sub (PySem.F.args_bexc_ga (.ref x) (.str "__class__" t)) ?_
  unfold Builtin.«object.__getattribute__»
  refine wpAny_bind (wpAny_of_eq (a := ((Value.ref x : Value), [Value.str "__class__" t])) (by first | rfl | (simp only [slotArgs]; rfl)) ?_)
  refine wpAny_bind (wpAny_pure (wpAny_bind (L0.at (wpAny_bind (L3.at ?_)))))
  show wpAny _ _ (holding [Value.builtin "object.__class__"] (call (.builtin "getset_descriptor.__get__") [.builtin "object.__class__", .ref x, .ref D]) >>= ret) _ _ _
  refine wpAny_bind (wpAny_holding (wpAny_call (class_get (s := ⟨hp, g, d, t + 1, os⟩) (ox := ox) (od := od) X I hm ?_)))
  refine wpAny_pure ?_
  show wpAny _ _ (handedOut (.ref D)) _ _ _
  rw [handedOut_of (v := .ref D) rfl]
  first
    | exact wpAny_pure (wpAny_pure h)
    | exact wpAny_pure h
    | exact wpAny_pure (wpAny_bind (wpAny_pure (wpAny_pure h)))
open PySem.W in
theorem kitx_excO (T : ExcC K D) : KitX K (.ref x) (.ref D) (fun h => InstAt h x ox D od) where
  ty := fun _ _ _ I => I.type
  it := fun _ _ X _ => by
    obtain ⟨cdD, hcD, _⟩ := any_some T.hd
    unfold clsIn at hcD
    split at hcD
    · rename_i c' d' cd' sl' ho
      intro A' Q' E' s' k q
      unfold isType loadHead
      exact wpAny_bind (wpAny_loadPart (k _ _ (X _ _ ho)) (wpAny_pure q))
    · cases hcD
  ne := fun h tp dd its n sl X htp => by
    obtain ⟨cdD, hcD, _⟩ := any_some T.hd
    refine Bool.eq_false_iff.mpr fun q => ?_
    have e : D = tp := Value.ref.inj (beq_iff_eq.mp q)
    subst e
    unfold clsIn at hcD
    split at hcD
    · rename_i c' d' cd' sl' ho
      have z := (X _ _ ho).symm.trans htp
      cases z
    · cases hcD
  ca := fun X I k => kin_classO T X I k
end
noncomputable def rIsX (K : PySem.W.Frag) : List V → Hp → VK → Prop := fun xs H Q => ∃ (a D : Addr) (dd : Option Addr) (c : V) (cv : Value) (b : Bool), xs = [.ref a, c] ∧ H a = some (ExH D dd a) ∧ (∀ dx, dd = some dx → ∃ fs, H dx = some (.xd fs)) ∧ ExcC K D ∧ ClsV c cv ∧ PySem.W.kitOne K (.ref D) cv = some b ∧ Q (.bl b) H
noncomputable def rIsXT (K : PySem.W.Frag) : List V → Hp → VK → Prop := fun xs H Q => ∃ (a D tp : Addr) (dd : Option Addr) (cs : List V) (us : List Value) (b : Bool), xs = [.ref a, .ref tp] ∧ H a = some (ExH D dd a) ∧ (∀ dx, dd = some dx → ∃ fs, H dx = some (.xd fs)) ∧ ExcC K D ∧ H tp = some (.tup cs) ∧ Paired ClsV cs us ∧ PySem.W.kitAny K (.ref D) us = some b ∧ Q (.bl b) H
section
variable {X : Cx} {pins : List (Addr × Obj)} {σ : L2.St} {H : Hp} {s : Shared} {a D : Addr} {dd : Option Addr}
theorem heldO_at (I : Inv X pins σ H s) (e : H a = some (ExH D dd a)) (hd : ∀ dx, dd = some dx → ∃ fs, H dx = some (.xd fs)) : ∃ ox od, PySem.W.InstAt s.heap a ox D od := by
  obtain ⟨⟨oe, vs, h1, h2, h3⟩, _⟩ := I.hok a _ e
  cases dd with
  | none =>
    obtain ⟨oc, od, oda, osl⟩ := oe
    obtain ⟨z1, z2, -⟩ := h2
    dsimp only at z1 z2 h3
    subst z1 z2 h3
    exact ⟨_, none, h1, rfl, rfl, trivial⟩
  | some dx =>
    obtain ⟨fs, ed⟩ := hd dx rfl
    have hx : ObjOk X.prog X.w H s.heap dx (.xd fs) := I.hok dx _ ed
    obtain ⟨mA, hns, hr⟩ := hx
    obtain ⟨od, ho, hl⟩ := lookIn_ns hns
    exact ⟨oe, some od, ⟨h1, h2.1, by unfold PySem.W.notCls; rw [h3] <;> rfl, by rw [h2.2.1]; exact ho⟩⟩
theorem call_isX : CallR X (.builtin "isinstance") (rIsX X.K) := by
  intro pins s σ H xs us Q I r h
  obtain ⟨a, D, dd, c, cv, b, rfl, ea, hd, C, k, e, q⟩ := h
  obtain ⟨u1, u2, rfl, r1, r2⟩ := vals2 r
  have e2 := k.eq r2
  subst e2
  cases (show u1 = Value.ref a from r1)
  obtain ⟨ox, od, J⟩ := heldO_at I ea hd
  exact PySem.W.kia_one (kitx_excO C) I.kIn J e (fun z => nomatch z) fun tk => ⟨.bl b, H, I.tok tk, rfl, q⟩
theorem call_isXT : CallR X (.builtin "isinstance") (rIsXT X.K) := by
  intro pins s σ H xs us Q I r h
  obtain ⟨a, D, tp, dd, cs, ws, b, rfl, ea, hd, C, hT, k, e, q⟩ := h
  obtain ⟨u1, u2, rfl, r1, r2⟩ := vals2 r
  cases (show u1 = Value.ref a from r1)
  cases (show u2 = Value.ref tp from r2)
  obtain ⟨ox, od, J⟩ := heldO_at I ea hd
  obtain ⟨_, its, rv, o, h1, h2, n, h3⟩ := (show ObjOk X.prog X.w H s.heap tp (.tup cs) from I.hok tp _ hT)
  have e3 := ClsV.all k rv
  subst e3
  obtain ⟨oc, od, dt, sl⟩ := o
  simp only at h2 h3
  subst h2 h3
  exact PySem.W.kia_tup (kitx_excO C) I.kIn J h1 e (fun z => nomatch z) fun tk => ⟨.bl b, H, I.tok tk, rfl, q⟩
end
noncomputable def fIsX (tbl : List (Addr × Bool)) (fe : FE) : FE := bindE fe fun r S => match r.sv S with
  | some (.dat (.exc c _ _)) => (tbl.lookup c).map fun b => .ok (.d (.bl b)) S
  | _ => none
section
variable {X : Cx} {W : WX} {e e2 : Expr} {es : List Expr} {te : TE} {fe : FE} {p p2 pos : Pos} {x1 : Nat} {cs : List V} {us : List Value} {c : V} {cv : Value} {tbl : List (Addr × Bool)}
theorem de_isX (hm : X.mg "isinstance" = none) (hk : PCs X [e2] [c] [cv]) (htbl : ∀ C b, tbl.lookup C = some b → ExcC X.K C ∧ PySem.W.kitOne X.K (.ref C) cv = some b) (he : DE X W e te fe) (hg : Gl X "isinstance" := by rfl)
    (hs1 : starEach [e, e2] X.env = (false, eval e X.env) :: starEach [e2] X.env := by rfl) (hpl : (backTo pos (starEach [e2] X.env)).any (·.1) = false := by rfl) :
    DE X W (.Call (.Name "isinstance" p) [e, e2] [] pos) (tCB (rIsX X.K) (tCons te (tCs [c]))) (fIsX tbl fe) :=
  ⟨pe_callB call_isX hg hm PyProof.Rows.boot_isinstance (pa_cons he.pe hk.pa hs1) (by decide) (by decide) hs1 hpl, fun S σ H Φ A F G st out ho Q q => by
    refine run1 (t := te) he.ev st ho q.x fun r S1 v H1 Φ1 A1 T1 F1 G1 sp st1 rv nd fz h1 => ?_
    split at h1
    · rename_i C ns ds e1
      have rp := rv.dat st1 e1
      cases rp with
      | @exc a _ dd _ vs _ ha hdx hiff hlen hrps =>
        cases el : tbl.lookup C with
        | none => rw [el] at h1; cases h1
        | some b =>
          rw [el] at h1; cases h1
          obtain ⟨t1, t2⟩ := htbl C b el
          have ck : ClsV c cv := by cases hk.pr with | cons h _ => exact h
          exact ⟨a, C, dd, c, cv, b, rfl, st1.le _ _ ha, fun dx e => ⟨_, st1.le _ _ (hdx dx e)⟩, t1, ck, t2, q _ H1 Φ1 A1 [] F1 G1 sp.drop st1 (RS.dat (.bl b)) (by simpa using st1.nd) fz⟩
    · cases h1⟩
theorem de_isXT (hm : X.mg "isinstance" = none) (hk : PCs X es cs us) (hl : cs.length ≤ 1000) (htbl : ∀ C b, tbl.lookup C = some b → ExcC X.K C ∧ PySem.W.kitAny X.K (.ref C) us = some b) (he : DE X W e te fe) (hg : Gl X "isinstance" := by rfl)
    (hs1 : starEach [e, .Tuple es x1 p2] X.env = (false, eval e X.env) :: starEach [.Tuple es x1 p2] X.env := by rfl) (hs2 : starEach [.Tuple es x1 p2] X.env = (false, eval (.Tuple es x1 p2) X.env) :: starEach [] X.env := by rfl) (hpl : (backTo pos (starEach [.Tuple es x1 p2] X.env)).any (·.1) = false := by rfl) :
    DE X W (.Call (.Name "isinstance" p) [e, .Tuple es x1 p2] [] pos) (tCB (rIsXT X.K) (tCons te (tCons (tTup (tCs cs)) tNil))) (fIsX tbl fe) :=
  ⟨pe_callB call_isXT hg hm PyProof.Rows.boot_isinstance (pa_cons he.pe (pa_cons (pe_tup hk.pa) pa_nil hs2) hs1) (by decide) (by decide) hs1 hpl, fun S σ H Φ A F G st out ho Q q => by
    refine run1 (t := te) he.ev st ho q.x fun r S1 v H1 Φ1 A1 T1 F1 G1 sp st1 rv nd fz h1 => ?_
    split at h1
    · rename_i C ns ds e1
      have rp := rv.dat st1 e1
      cases rp with
      | @exc a _ dd _ vs _ ha hdx hiff hlen hrps =>
        cases el : tbl.lookup C with
        | none => rw [el] at h1; cases h1
        | some b =>
          rw [el] at h1; cases h1
          obtain ⟨t1, t2⟩ := htbl C b el
          refine ⟨k1000 hl, fun tp ht => ?_⟩
          obtain ⟨n1, n2, n3⟩ := new_frz (o := .tup cs) st1 ht
          exact ⟨a, C, tp, dd, cs, us, b, rfl, upd_same' ht _ _ (st1.le _ _ ha), fun dx e => ⟨_, upd_same' ht _ _ (st1.le _ _ (hdx dx e))⟩, t1, upd_same, hk.pr, t2, q _ _ _ A1 [] F1 G1 (sp.drop.trans0 n1) n2 (RS.dat (.bl b)) (by simpa using n2.nd) fz⟩
    · cases h1⟩
end
end L3
namespace L3
open PySem PySem.Spec PyProof.Rows L2
section
variable {S : Sto} {P : SO → Prop} {Q : R → Sto → Prop} {X : Ex → Sto → Prop} {tbl : List (Addr × Bool)} {fe : FE}
@[simp] theorem wb_isX : Wb (fIsX tbl fe) S Q X = Wb fe S (fun r S1 => Ob (r.sv S1) fun x => ∃ c ns ds, x = .dat (.exc c ns ds) ∧ Ob (tbl.lookup c) fun b => Q (.d (.bl b)) S1) X := by
  unfold fIsX; rw [wb_bind]; refine wb_ext fun r S1 => ?_
  unfold Wb
  cases e : r.sv S1 with
  | none => simp only [e] <;> simp
  | some x =>
    simp only [e]
    cases x with
    | dat d =>
      cases d with
      | exc c ns ds =>
        cases e2 : tbl.lookup c with
        | none =>
          simp [e2]
          try (rintro c' ns' ds' rfl rfl rfl; simp [e2])
        | some d =>
          simp [e2]
          try (constructor
               · intro q; exact ⟨c, ns, ds, ⟨rfl, rfl, rfl⟩, by simp [e2, q]⟩
               · rintro ⟨c', ns', ds', ⟨rfl, rfl, rfl⟩, q⟩
                 simpa [e2] using q)
      | _ => simp
    | _ => simp
end
end L3
namespace L3
open PySem PySem.Spec PyProof.Rows L2
noncomputable def insC (c : Nat) (d : D) (S : Sto) : Option Sto := match S.μ[c]? with
  | some (.node .lst xs) => if xs.length < 1000000 then some (S.cellp c (.node .lst (.dat d :: xs))) else none
  | _ => none
noncomputable def fIns0C (fo fe : FE) : FS := bindS fo fun ro S1 => match ro.sv S1 with
  | some (.cell c) => if isLC c S1 = true then bindS fe (fun re S2 => match re.sv S2 with
    | some (.dat d) => (insC c d S2).map SO.nx
    | _ => none) S1 else none
  | _ => none
section
variable {X : Cx} {W : WX} {o e : Expr} {pos apos cpos ipos : Pos} {ij : Nat} {to te : TE} {fo fe : FE}
end
end L3
namespace L3
open PySem PySem.Spec PyProof.Rows L2
section
variable {S : Sto} {P : SO → Prop} {fo fe : FE}
@[simp] theorem ws_ins0C : Ws (fIns0C fo fe) S P = Wb fo S (fun ro S1 => Ob (ro.sv S1) fun y => ∃ c, y = .cell c ∧ isLC c S1 = true ∧ Wb fe S1 (fun re S2 => Ob (re.sv S2) fun x => ∃ d, x = .dat d ∧ Ob (insC c d S2) fun S3 => P (.nx S3)) (fun e S1 => P (.exc e S1))) (fun e S1 => P (.exc e S1)) := by
  unfold fIns0C; rw [ws_bind]; refine wb_ext fun ro S1 => ?_
  cases e : ro.sv S1 with
  | none => unfold Ws; simp [e]
  | some y =>
    cases y with
    | dat => unfold Ws; simp [e]
    | node => unfold Ws; simp [e]
    | cell c =>
      by_cases hl : isLC c S1 = true
      · simp only [ob_some, SV.cell.injEq, exists_eq_left', hl, true_and]
        refine Eq.trans (b := Ws (bindS fe fun re S2 => match re.sv S2 with
          | some (.dat d) => (insC c d S2).map SO.nx
          | _ => none) S1 P) (by unfold Ws; simp only [e, hl, if_true] <;> rfl) ?_
        rw [ws_bind]; refine wb_ext fun re S2 => ?_
        cases e2 : re.sv S2 with
        | none => unfold Ws; simp [e2]
        | some x =>
          cases x with
          | dat d => unfold Ws; cases e3 : insC c d S2 <;> simp [e2, e3]
          | cell => unfold Ws; simp [e2]
          | node => unfold Ws; simp [e2]
      · unfold Ws; simp [e, hl]
end
end L3
namespace L3
open PySem PySem.Spec PyProof.Rows L2
noncomputable def rfG (tl : List Value) : List Value → Bool
  | .ref _ :: r => rfG tl r
  | l => l == tl
structure BaseG (B newId initId : String) (tl : List Value) : Prop where
  facts : ExcBaseFacts B newId initId tl
  pass : ∀ self, refuseLoop self "__setattr__" tl = pure ()
  obj : tl.contains (.type "object") = true
  no : ∀ c r, tl ≠ .ref c :: r
section
variable {B newId initId : String} {tl : List Value}
end
end L3
namespace L3
open PySem PySem.Spec PyProof.Rows L2
structure OxG (K : PySem.W.Frag) (newId : String) (tl : List Value) (C : Addr) : Prop where
  cls : ∃ nm q N bs bm sn sub ab col dd k0 k1 k2 k3 k5, K.lookup C = some (excClassObj nm q C N bs bm true sn sub ab col dd k0 k1 k2 k3 k5 newId) ∧ rfG tl bm = true
  sa : PySem.W.findIn K (.ref C) "__setattr__" = some (some (.builtin "object.__setattr__"))
  exC : PySem.W.subIn K (.ref C) (.type "BaseException") = some true
  tyC : PySem.W.typeIn K (.ref C) = some (.type "type")
  kC : PySem.W.keepIn K (.ref C) = true
section
variable {B newId initId : String} {tl : List Value} {X : Cx} {pins : List (Addr × Obj)} {σ : L2.St} {H : Hp} {s : Shared} {a C dx : Addr} {f : Str} {y : V} {u : Value} {Q : Unit → Shared → Prop} {E : Value → Shared → Prop} {A : Around}
end
section
variable {B newId initId : String} {tl : List Value} {X : Cx} {x : Str} {P : Addr} {mc : Value} {o e : Expr} {es : List Expr} {to te : L2.TE} {ta : L2.TA} {f : Str} {p p' p1 p2 pos : Pos}
end
section
variable {B newId initId : String} {tl : List Value} {X : Cx} {W : WX} {CX : CXT} {x : Str} {C fI : Addr} {k : Nat} {fd : FuncData} {ps : List Str} {fld : Str} {ok : V → Prop} {okD : D → Bool} {e : Expr} {es : List Expr} {ta : TA} {fa : FA} {p pos pos1 : Pos}
end
end L3
namespace L3
open PySem PySem.Spec PyProof.Rows L2
structure RaiseO (P : Program) (w : World) (K : PySem.W.Frag) (mg : Str → Option Value) (base : Heap) (x : Str) (C : Addr) (fld : Str) (okD : D → Bool) : Prop where
  at_ : mg x = some (.ref C)
  ex : ∃ (B newId initId : String) (tl : List Value) (fI : Addr) (fd : FuncData) (ps : List Str) (ok : V → Prop), BaseG B newId initId tl ∧ OxG K newId tl C ∧ PySem.W.findIn K (.ref C) "__init__" = some (some (.ref fI)) ∧
    PySem.W.typeIn K (.ref fI) = some (.type "function") ∧ FnOk P w K mg base CX0 1 fI fd ps (spI K C fld ok) ∧ Binds K fd ps [] ∧ (∀ Φ v d, Rp K Φ v d → okD d = true → ok v)
section
variable {X : Cx} {W : WX} {x : Str} {C : Addr} {fld : Str} {okD : D → Bool} {e : Expr} {es : List Expr} {ta : TA} {fa : FA} {p pos pos1 : Pos}
end
section
variable {K : PySem.W.Frag} {newId : String} {tl : List Value} {C : Addr}
end
section
variable {P : Program} {w : World} {K : PySem.W.Frag} {mg : Str → Option Value} {base : Heap} {newId : String} {tl : List Value} {C f : Addr} {fd : FuncData} {st : Stmt} {sn an qual fld : Str} {ok : V → Prop} {te : L2.TE}
end
section
variable {K : PySem.W.Frag} {W : WX} {ts : TS} {tb : WX → TS} {fsu fb : FS} {tbl : List (Addr × Bool)} {cv : Value}
end
section
variable {X : Cx} {W : WX} {x : Str} {cv : Value} {body suite : List Stmt} {b₀ : Stmt} {np pos pos' : Pos} {fsu fb : FS} {tbl : List (Addr × Bool)}
end
section
variable {S : Sto} {P : SO → Prop} {tbl : List (Addr × Bool)} {fsu fb : FS}
end
end L3
namespace L3
open PySem PySem.Spec PyProof.Rows L2
end L3
namespace L3
open PySem PySem.Spec PyProof.Rows L2
noncomputable def maxTuD : List D → Option D
  | [.tup ds] => (intsD ds).bind fun is => if is.isEmpty = true then none else some (.int (maxI is))
  | _ => none
section
variable {X : Cx} {W : WX} {e : Expr} {es : List Expr} {p pos : Pos} {t : TA} {fA : FA}
@[simp] theorem s_maxTuD {ds : List D} : maxTuD [.tup ds] = (intsD ds).bind fun is => if is.isEmpty = true then none else some (.int (maxI is)) := rfl
@[simp] theorem intsD_nil : intsD [] = some [] := rfl
@[simp] theorem intsD_cons {i : Int} {ds : List D} : intsD (.int i :: ds) = (intsD ds).map fun is => i :: is := by
  rw [intsD]
@[simp] theorem maxI_two {i j : Int} : maxI [i, j] = max j i := rfl
end
end L3
namespace L3
open PySem PySem.Spec PyProof.Rows L2
noncomputable def viewD : Option SV → Option SV
  | some x => x.peek.map .dat
  | none => none
noncomputable def D.flat : D → Bool
  | .non => true
  | .bl _ => true
  | .int _ => true
  | .str _ => true
  | _ => false
noncomputable def fSee (fe : FE) : FE := fun S => match fe ⟨S.ρ.map viewD, []⟩ with
  | some (.ok r S2) => match r.sv S2 with
    | some (.dat d) => if d.flat = true then some (.ok (.d d) S) else none
    | _ => none
  | _ => none
section
variable {K : PySem.W.Frag} {Φ H : Hp} {A L : List Addr}
end
section
variable {S : Sto} {Q : R → Sto → Prop} {Y : Ex → Sto → Prop} {fe : FE}
@[simp] theorem wb_see : Wb (fSee fe) S Q Y = Wb fe ⟨S.ρ.map viewD, []⟩ (fun r S2 => Ob (r.sv S2) fun x => ∃ d, x = .dat d ∧ d.flat = true ∧ Q (.d d) S) (fun _ _ => False) := by
  unfold Wb fSee
  cases e : fe ⟨S.ρ.map viewD, []⟩ with
  | none => simp
  | some o =>
    cases o with
    | exc => simp
    | ok r S2 =>
      cases e2 : r.sv S2 with
      | none => simp [e2]
      | some x =>
        cases x with
        | dat d => by_cases h : d.flat = true <;> simp [e2, h]
        | _ => simp [e2]
@[simp] theorem viewD_none : viewD none = none := rfl
@[simp] theorem viewD_dat {d : D} : viewD (some (.dat d)) = some (.dat d) := rfl
@[simp] theorem viewD_cell {c : Nat} : viewD (some (.cell c)) = none := rfl
@[simp] theorem viewD_own {xs : List SV} : viewD (some (.own xs)) = (peeks xs).map fun ds => .dat (.lst ds) := by
  show ((SV.node .lst xs).peek).map SV.dat = _
  rw [show (SV.node .lst xs).peek = (peeks xs).map D.lst from rfl, Option.map_map]; rfl
@[simp] theorem flat_int {i : Int} : (D.int i).flat = true := rfl
end
end L3
namespace L3
open PySem PySem.Spec PyProof.Rows L2
noncomputable def forOwn (j : Nat) (f : FS) : List SV → FS
  | [], S => some (.nx S)
  | x :: r, S => if j < S.ρ.length then (match f { S with ρ := S.ρ.set j (some x) } with
      | some (.nx S1) => forOwn j f r S1
      | _ => none) else none
section
variable {F F1 F2 F' G G1 G2 A A1 A2 T T1 B : List Addr} {H H1 H2 Φ Φ1 Φ2 : Hp}
end
section
variable {X : Cx} {W : WX} {pos px py : Pos} {t : TS} {f : FS}
end
section
variable {S : Sto} {P : SO → Prop} {f : FS} {i j : Nat}
@[simp] theorem ws_ownN : Ws (forOwn j f []) S P = P (.nx S) := by
  unfold Ws; exact propext ⟨fun ⟨o, e, p⟩ => by cases e; exact p, fun p => ⟨_, rfl, p⟩⟩
end
section
noncomputable def fSeeT (f : FT) : FT := fun S => match f ⟨S.ρ.map viewD, []⟩ with
  | some (.ok b _) => some (.ok b S)
  | _ => none
variable {S : Sto} {Q : Bool → Sto → Prop} {Y : Ex → Sto → Prop} {f : FT}
@[simp] theorem wb_seeT : Wb (fSeeT f) S Q Y = Wb f ⟨S.ρ.map viewD, []⟩ (fun b _ => Q b S) (fun _ _ => False) := by
  unfold Wb fSeeT
  cases e : f ⟨S.ρ.map viewD, []⟩ with
  | none => simp
  | some o => cases o <;> simp
end
end L3
namespace L3
open PySem PySem.Spec PyProof.Rows L2
mutual
inductive RdX (h : Heap) : Value → PyData → Prop
  | none : RdX h .none .none
  | bool (b : Bool) : RdX h (.bool b) (.bool b)
  | int (i : Int) (t : Tok) : RdX h (.int i t) (.int i)
  | str (x : Str) (t : Tok) : RdX h (.str x t) (.str x)
  | list {a : Addr} {o : Obj} {vs : Array Value} {n : Nat} {xs : List PyData} : h.get? a = some o → o.cls = .type "list" → o.data = .seq vs n → RdXs h vs.toList xs → RdX h (.ref a) (.list xs)
  | tuple {a : Addr} {o : Obj} {vs : Array Value} {n : Nat} {xs : List PyData} : h.get? a = some o → o.cls = .type "tuple" → o.data = .seq vs n → RdXs h vs.toList xs → RdX h (.ref a) (.tuple xs)
  | dict {a : Addr} {o : Obj} {n : Nat} : h.get? a = some o → o.cls = .type "dict" → o.data = .dict #[] n → (a == sysModules) = false → RdX h (.ref a) (.dict [])
inductive RdXs (h : Heap) : List Value → List PyData → Prop
  | nil : RdXs h [] []
  | cons {v : Value} {vs : List Value} {d : PyData} {ds : List PyData} : RdX h v d → RdXs h vs ds → RdXs h (v :: vs) (d :: ds)
end
section
variable {h : Heap} {prog : Program} {w : World}
mutual
theorem RdX.reads : ∀ {v : Value} {d : PyData}, RdX h v d → ∃ as, Reads h v d as
  | _, _, .none => ⟨_, .none⟩
  | _, _, .bool b => ⟨_, .bool b⟩
  | _, _, .int i t => ⟨_, .int i t⟩
  | _, _, .str x t => ⟨_, .str x t⟩
  | _, _, .list h1 h2 h3 h4 => by obtain ⟨as, r⟩ := RdXs.reads h4; exact ⟨_, .list h1 h2 h3 r⟩
  | _, _, .tuple h1 h2 h3 h4 => by obtain ⟨as, r⟩ := RdXs.reads h4; exact ⟨_, .tuple h1 h2 h3 r⟩
  | _, _, .dict h1 h2 h3 _ => ⟨_, .dict h1 h2 h3 .nil .nil⟩
theorem RdXs.reads : ∀ {vs : List Value} {ds : List PyData}, RdXs h vs ds → ∃ as, ReadsAll h vs ds as
  | _, _, .nil => ⟨_, .nil⟩
  | _, _, .cons a b => by
    obtain ⟨as, r⟩ := RdX.reads a
    obtain ⟨bs, q⟩ := RdXs.reads b
    exact ⟨_, .cons r q⟩
end
mutual
theorem RdX.repr : ∀ {v : Value} {d : PyData}, RdX h v d → d.showable = true → d.shown.length ≤ sizeLine → ∃ bs, ReadAtMost h d.depth bs ∧ ReprK prog w bs h d.depth v d.shown
  | _, _, .none, _, _ => ⟨[], (fun _ h => nomatch h), by simp only [PyData.shown]; exact .of_is ReprIs.none _ _ _⟩
  | _, _, .bool b, _, _ => ⟨[], (fun _ h => nomatch h), by simp only [PyData.shown]; exact .of_is (ReprIs.bool b) _ _ _⟩
  | _, _, .int i t, hs, _ => ⟨[], (fun _ h => nomatch h), by simp only [PyData.shown]; exact .of_is (ReprIs.int t (by simpa [PyData.showable] using hs)) _ _ _⟩
  | _, _, .str x t, _, hz => ⟨[], (fun _ h => nomatch h), by simp only [PyData.shown]; exact .of_is (ReprIs.str x t (by simpa only [PyData.shown] using hz)) _ _ _⟩
  | _, _, .list (a := a) (vs := vs) (xs := xs) h1 h2 h3 h4, hs, hz => by
    have hz' : (listText (PyData.shownAll xs)).length ≤ sizeLine := by simpa only [PyData.shown] using hz
    obtain ⟨bs, hb, hk⟩ := RdXs.repr h4 (by simpa [PyData.showable] using hs) (fun t ht => Nat.le_trans (listText_mem_le ht) hz')
    obtain ⟨as, r4⟩ := h4.reads
    have r : Reads h (.ref a) (.list xs) _ := .list h1 h2 h3 r4
    have hna : a ∉ bs := not_mem_of_deeper r (by simp only [PyData.depth]; omega) hb
    refine ⟨a :: bs, ReadAtMost.cons r (by simp only [PyData.depth]; omega) hb, ?_⟩
    simp only [PyData.depth, PyData.shown]
    obtain ⟨l⟩ := vs
    cases l with
    | nil =>
      have h4' : RdXs h [] xs := h4
      cases h4'
      simp only [PyData.shownAll, listText_nil]
      exact ReprK.listEmpty h1 h2 h3
    | cons x l => exact ReprK.list h1 h2 h3 hna (by simpa using hk.length_eq) (fun i y e => hk.item i y (by simpa using e))
  | _, _, .tuple (a := a) (xs := xs) h1 h2 h3 h4, hs, hz => by
    have hz' : (tupleText (PyData.shownAll xs)).length ≤ sizeLine := by simpa only [PyData.shown] using hz
    obtain ⟨bs, hb, hk⟩ := RdXs.repr h4 (by simpa [PyData.showable] using hs) (fun t ht => Nat.le_trans (tupleText_mem_le ht) hz')
    obtain ⟨as, r4⟩ := h4.reads
    have r : Reads h (.ref a) (.tuple xs) _ := .tuple h1 h2 h3 r4
    have hna : a ∉ bs := not_mem_of_deeper r (by simp only [PyData.depth]; omega) hb
    refine ⟨a :: bs, ReadAtMost.cons r (by simp only [PyData.depth]; omega) hb, ?_⟩
    simp only [PyData.depth, PyData.shown]
    exact ReprK.tuple h1 h2 h3 hna hk
  | _, _, .dict (a := a) (n := n) h1 h2 h3 hsys, hs, hz => by
    have r : Reads h (.ref a) (.dict []) _ := .dict h1 h2 h3 .nil .nil
    have hna : a ∉ ([] : List Addr) := by simp
    have hb : ReadAtMost h (PyData.depthKv []) [] := fun _ h => nomatch h
    refine ⟨a :: [], ReadAtMost.cons r (by simp only [PyData.depth]; omega) hb, ?_⟩
    simp only [PyData.depth, PyData.shown, PyData.shownKv]
    exact ReprK.dict h1 h2 h3 hsys hna .nil
theorem RdXs.repr : ∀ {vs : List Value} {ds : List PyData}, RdXs h vs ds → PyData.showableAll ds = true → (∀ t ∈ PyData.shownAll ds, t.length ≤ sizeLine) → ∃ bs, ReadAtMost h (PyData.depthAll ds) bs ∧ ReprAllK prog w bs h (PyData.depthAll ds) vs (PyData.shownAll ds)
  | _, _, .nil, _, _ => ⟨[], (fun _ h => nomatch h), by simp only [PyData.shownAll]; exact .nil⟩
  | _, _, .cons (d := d) (ds := ds) r rs, hs, hz => by
    have hs' : d.showable = true ∧ PyData.showableAll ds = true := by simpa [PyData.showableAll] using hs
    obtain ⟨b1, hb1, k1⟩ := RdX.repr r hs'.1 (hz _ (by simp only [PyData.shownAll]; exact List.mem_cons_self ..))
    obtain ⟨b2, hb2, k2⟩ := RdXs.repr rs hs'.2 (fun t ht => hz t (by simp only [PyData.shownAll]; exact List.mem_cons_of_mem _ ht))
    refine ⟨b1 ++ b2, ?_, ?_⟩
    · intro b hm
      simp only [PyData.depthAll]
      rcases List.mem_append.mp hm with hm | hm
      · obtain ⟨d', as', r', hd'⟩ := hb1 b hm
        exact ⟨d', as', r', Nat.le_trans hd' (Nat.le_max_left _ _)⟩
      · obtain ⟨d', as', r', hd'⟩ := hb2 b hm
        exact ⟨d', as', r', Nat.le_trans hd' (Nat.le_max_right _ _)⟩
    · simp only [PyData.depthAll, PyData.shownAll]
      exact .cons ((k1.more fun b hb => List.mem_append_left _ hb).level_le (Nat.le_max_left _ _)) (k2.more_le (fun b hb => List.mem_append_right _ hb) (Nat.le_max_right _ _))
end
theorem RdX.shows {a : Addr} {d : PyData} (r : RdX h (.ref a) d) (hs : d.showable = true) (hsz : d.shown.length ≤ sizeLine) : ∃ T idr, ShowsBy prog w h a d T idr := by
  cases r with
  | list h1 h2 h3 h4 =>
    rename_i o vs n xs
    have hz' : (listText (PyData.shownAll xs)).length ≤ sizeLine := by simpa only [PyData.shown] using hsz
    obtain ⟨bs, hb, hk⟩ := RdXs.repr (prog := prog) (w := w) h4 (by simpa [PyData.showable] using hs) (fun t ht => Nat.le_trans (listText_mem_le ht) hz')
    obtain ⟨as, r4⟩ := h4.reads
    have hna : a ∉ bs := not_mem_of_deeper (.list h1 h2 h3 r4) (by simp only [PyData.depth]; omega) hb
    refine ⟨"list", "list.__repr__", F.slot_list_repr.toG, F.slot_list_str, F.slot_list_format, fun s hk0 => ⟨o, hk0 _ _ h1, h2⟩, fun A E s Q hg hu hk0 hQ => ?_⟩
    simp only [PyData.depth] at hu
    simp only [PyData.shown] at hQ
    obtain ⟨l⟩ := vs
    cases l with
    | nil =>
      have h4' : RdXs h [] xs := h4
      cases h4'
      simp only [PyData.shownAll, listText_nil] at hQ
      exact call_list_repr_empty ⟨o, hk0 _ _ h1, h2⟩ (hk0 _ _ h1) h3 (hQ s.heap _ _ fun _ _ e => e)
    | cons x l =>
      exact call_list_reprK h1 h2 h3 hna (by simpa using hk.length_eq) (fun i y e => hk.item i y (by simpa using e)) hg (fun b _ => Clear.nil b) hu hk0 hQ hz'
  | tuple h1 h2 h3 h4 =>
    rename_i o vs n xs
    have hz' : (tupleText (PyData.shownAll xs)).length ≤ sizeLine := by simpa only [PyData.shown] using hsz
    obtain ⟨bs, hb, hk⟩ := RdXs.repr (prog := prog) (w := w) h4 (by simpa [PyData.showable] using hs) (fun t ht => Nat.le_trans (tupleText_mem_le ht) hz')
    obtain ⟨as, r4⟩ := h4.reads
    have hna : a ∉ bs := not_mem_of_deeper (.tuple h1 h2 h3 r4) (by simp only [PyData.depth]; omega) hb
    refine ⟨"tuple", "tuple.__repr__", F.slot_tuple_repr, F.slot_tuple_str, F.slot_tuple_format, fun s hk0 => ⟨o, hk0 _ _ h1, h2⟩, fun A E s Q hg hu hk0 hQ => ?_⟩
    simp only [PyData.depth] at hu
    simp only [PyData.shown] at hQ
    exact call_tuple_reprK h1 h2 h3 hna hk hg (fun b _ => Clear.nil b) hu hk0 hQ hz'
  | dict h1 h2 h3 hsys =>
    rename_i o n
    have hna : a ∉ ([] : List Addr) := by simp
    refine ⟨"dict", "dict.__repr__", F.slot_dict_repr, F.slot_dict_str, F.slot_dict_format, fun s hk0 => ⟨o, hk0 _ _ h1, h2⟩, fun A E s Q hg hu hk0 hQ => ?_⟩
    simp only [PyData.depth] at hu
    have hz' : (dictText (PyData.shownKv [])).length ≤ sizeLine := by simpa only [PyData.shown] using hsz
    simp only [PyData.shown, PyData.shownKv] at hQ
    exact call_dict_reprK (d := PyData.depthKv []) h1 h2 h3 hsys hna .nil hg (fun b _ => Clear.nil b) hu hk0 hQ (by simpa only [PyData.shownKv] using hz')
theorem repr_of_RX {a : Addr} {d : PyData} {A : Around} {E : Value → Shared → Prop} {s : Shared} {Q : Value → Shared → Prop} (r : RdX h (.ref a) d) (hs : d.showable = true) (hg : A.guards = some []) (hu : A.units + (d.depth + 1) < cLine) (hk0 : ∀ b o, h.get? b = some o → s.heap.get? b = some o)
    (hQ : ∀ h' u tk, (∀ b o, s.heap.get? b = some o → h'.get? b = some o) → Q (.str d.shown u) { s with heap := h', toks := tk })
    (hsz : d.shown.length ≤ sizeLine) : wpAny (model prog w) A (call (.builtin "repr") [.ref a]) Q E s := by
  obtain ⟨T, idr, S⟩ := r.shows (prog := prog) (w := w) hs hsz
  exact call_repr_slot (by omega) (S.typeIs s hk0) S.slotRepr (S.call A.in1 E s _ hg (by show A.units + 1 + d.depth < cLine; omega) hk0 fun h' u tk hk => ⟨_, _, rfl, hQ h' u tk hk⟩)
end
end L3
namespace L3
open PySem PySem.Spec PyProof.Rows L2
mutual
noncomputable def D.pyE : D → Option PyData
  | .non => some .none
  | .bl b => some (.bool b)
  | .int i => some (.int i)
  | .str x => some (.str x)
  | .lst xs => (pysE xs).map PyData.list
  | .tup xs => (pysE xs).map PyData.tuple
  | .kl xs => (pysE xs).map PyData.list
  | .kt xs => (pysE xs).map PyData.tuple
  | .dK [] [] => some (.dict [])
  | .dK _ _ => none
  | .dT _ _ => none
  | .wK _ _ => none
  | .wT _ _ => none
  | .fn _ => none
  | .exc _ _ _ => none
noncomputable def pysE : List D → Option (List PyData)
  | [] => some []
  | d :: ds => (d.pyE).bind fun p => (pysE ds).map fun ps => p :: ps
end
section
variable {X : Cx} {pins : List (Addr × Obj)} {σ : Sl} {H : Hp} {s : Shared}
mutual
theorem Rp.rdx (I : Inv X pins σ H s) : ∀ {v : V} {d : D} {p : PyData} {u : Value}, Rp X.K H v d → d.pyE = some p → RelV v u → RdX s.heap u p
  | _, _, _, _, .non, e, r => by unfold D.pyE at e; cases e; cases r; exact .none
  | _, _, _, _, .bl b, e, r => by unfold D.pyE at e; cases e; cases r; exact .bool b
  | _, _, _, _, .int i, e, r => by unfold D.pyE at e; cases e; obtain ⟨t, rfl⟩ := r; exact .int i t
  | _, _, _, _, .str x, e, r => by unfold D.pyE at e; cases e; obtain ⟨t, rfl⟩ := r; exact .str x t
  | _, _, p, _, .lst (ds := ds) q rr, e, r => by
    have e : (pysE ds).map PyData.list = some p := by rw [← e]; unfold D.pyE; rfl
    cases e2 : pysE ds with
    | none => rw [e2] at e; cases e
    | some ps =>
      rw [e2] at e; cases e; cases r
      obtain ⟨its, rv, ⟨o, n, ho, hc, _, hd⟩, _⟩ := I.list (show SqL X.K H _ _ from .inl (.inl q))
      exact .list ho hc hd (Rps.rdx I rr e2 rv)
  | _, _, p, _, .tup (ds := ds) q rr, e, r => by
    have e : (pysE ds).map PyData.tuple = some p := by rw [← e]; unfold D.pyE; rfl
    cases e2 : pysE ds with
    | none => rw [e2] at e; cases e
    | some ps =>
      rw [e2] at e; cases e; cases r
      obtain ⟨its, rv, ⟨o, ho, hc, n, hd⟩, _⟩ := I.tuple (show SqT X.K H _ _ from .inl (.inl q))
      exact .tuple ho hc hd (Rps.rdx I rr e2 rv)
  | _, _, p, _, .kl (ds := ds) q rr, e, r => by
    have e : (pysE ds).map PyData.list = some p := by rw [← e]; unfold D.pyE; rfl
    cases e2 : pysE ds with
    | none => rw [e2] at e; cases e
    | some ps =>
      rw [e2] at e; cases e; cases r
      obtain ⟨its, rv, ⟨o, n, ho, hc, _, hd⟩, _⟩ := I.list q
      exact .list ho hc hd (Rps.rdx I rr e2 rv)
  | _, _, p, _, .kt (ds := ds) q rr, e, r => by
    have e : (pysE ds).map PyData.tuple = some p := by rw [← e]; unfold D.pyE; rfl
    cases e2 : pysE ds with
    | none => rw [e2] at e; cases e
    | some ps =>
      rw [e2] at e; cases e; cases r
      obtain ⟨its, rv, ⟨o, ho, hc, n, hd⟩, _⟩ := I.tuple q
      exact .tuple ho hc hd (Rps.rdx I rr e2 rv)
  | _, _, _, _, .dK (ks := ks) (ds := ds) (a := a) (vs := vs) q1 q2 rr, e, r => by
    cases ks with
    | cons k ks => unfold D.pyE at e; cases e
    | nil =>
      cases ds with
      | cons d ds => unfold D.pyE at e; cases e
      | nil =>
        unfold D.pyE at e; cases e; cases r
        obtain ⟨_, hsys, vs', kv, o, es, ep, ho, hx, hd, _, pr, _⟩ := dk_rd I.hok (show Rd H a (.dK []) from q1)
        have e0 : vs' = [] := List.eq_nil_of_length_eq_zero (Paired.length kv).symm
        subst e0
        have e1 : es = #[] := by
          have key : ∀ l : List DictEntry, Pairs (mixKind X.prog X.w) l [] → l = [] := fun l h => by cases h; rfl
          have := key _ pr
          exact Array.toList_eq_nil_iff.mp this
        subst e1
        exact .dict ho hx.1 hd hsys
  | _, _, _, _, .dT _ _ _, e, _ => by unfold D.pyE at e; cases e
  | _, _, _, _, .wK _ _ _, e, _ => by unfold D.pyE at e; cases e
  | _, _, _, _, .wT _ _ _, e, _ => by unfold D.pyE at e; cases e
  | _, _, _, _, .fn _ _, e, _ => by unfold D.pyE at e; cases e
  | _, _, _, _, .exc _ _ _ _ _, e, _ => by unfold D.pyE at e; cases e
theorem Rps.rdx (I : Inv X pins σ H s) : ∀ {vs : List V} {ds : List D} {ps : List PyData} {us : List Value}, Rps X.K H vs ds → pysE ds = some ps → Vals vs us → RdXs s.heap us ps
  | _, _, _, _, .nil, e, r => by unfold pysE at e; cases e; cases r; exact .nil
  | _, _, _, _, .cons (d := d) (ds := ds) q rr, e, r => by
    rw [pysE] at e
    cases e1 : d.pyE with
    | none => rw [e1] at e; cases e
    | some p =>
      cases e2 : pysE ds with
      | none => rw [e1, e2] at e; cases e
      | some qs =>
        rw [e1, e2] at e; cases e
        cases r with
        | cons r1 r2 => exact .cons (Rp.rdx I q e1 r1) (Rps.rdx I rr e2 r2)
end
end
noncomputable def reprE : List D → Option D
  | [d] => match d.pyE with
    | some p => if p.showable = true ∧ p.depth ≤ 64 ∧ p.shown.length ≤ 16000000 then some (.str p.shown) else none
    | none => none
  | _ => none
noncomputable def rReprE (K : PySem.W.Frag) : List V → Hp → VK → Prop := fun vs H Q => ∃ x d p, vs = [x] ∧ Rp K H x d ∧ d.pyE = some p ∧ p.showable = true ∧ p.depth ≤ 64 ∧ p.shown.length ≤ sizeLine ∧ Q (.str p.shown) H
theorem cr_reprE {X : Cx} (gd : X.A.guards = some []) (hu : X.A.units + 65 < cLine) : CallR X (.builtin "repr") (rReprE X.K) := by
  rintro pins s σ H xs us Q I r ⟨x, d, p, rfl, rp, ep, sh, dh, hz, q⟩
  obtain ⟨u, rfl, ru⟩ := vals1 r
  have fin : ∀ {y : Str} {t : Tok} {s' : Shared}, Inv X pins σ H s' → y = p.shown → EP X pins σ Q (.str y t) s' := fun {y t s'} I' e => by subst e; exact ⟨.str p.shown, H, I', ⟨t, rfl⟩, q⟩
  have rd := rp.rdx I ep ru
  cases rd with
  | none => exact PySem.P.repr_of_none (fin (I.tok _) (by simp only [PyData.shown]))
  | bool b => exact PySem.P.repr_of_bool (fin (I.tok _) (by simp only [PyData.shown]))
  | int i t =>
    have sh' : i.natAbs.log2 < 1920 := by simpa [PyData.showable] using sh
    exact PySem.P.repr_of_int sh' (fin (I.tok _) (by simp only [PyData.shown]))
  | str z t =>
    have hz' : (reprText z).length ≤ sizeLine := by simpa only [PyData.shown] using hz
    exact PySem.P.repr_of_str (fin (I.tok _) (by simp only [PyData.shown])) hz'
  | list h1 h2 h3 h4 => exact repr_of_RX (.list h1 h2 h3 h4) sh gd (by omega) (fun _ _ e => e) (fun h' u tk hk => fin (I.kept hk) rfl) hz
  | tuple h1 h2 h3 h4 => exact repr_of_RX (.tuple h1 h2 h3 h4) sh gd (by omega) (fun _ _ e => e) (fun h' u tk hk => fin (I.kept hk) rfl) hz
  | dict h1 h2 h3 h4 => exact repr_of_RX (.dict h1 h2 h3 h4) sh gd (by omega) (fun _ _ e => e) (fun h' u tk hk => fin (I.kept hk) rfl) hz
theorem bok_reprE {K : PySem.W.Frag} : BOk K (rReprE K) (gD reprE) := bok_D fun H vs ds z rr e Q q => by
  unfold reprE at e
  split at e
  · rename_i d
    cases ep : d.pyE with
    | none => rw [ep] at e; cases e
    | some p =>
      rw [ep] at e
      dsimp only at e
      split at e
      · rename_i h
        cases e
        cases rr with
        | cons r rs => cases rs; exact ⟨_, d, p, rfl, r, ep, h.1, h.2.1, Nat.le_trans h.2.2 (by rw [sizeLine_eq]; decide), q _ fun H' => .str _⟩
      · cases e
  · cases e
section
variable {X : Cx} {W : WX} {e : Expr} {es : List Expr} {t : TA} {fA : FA} {p pos : Pos}
theorem de_reprE (gd : X.A.guards = some []) (hu : X.A.units + 65 < cLine) (hm : X.mg "repr" = none) (ha : DA X W (e :: es) t fA) (hg : Gl X "repr" := by rfl) (he : starEach (e :: es) X.env = (false, eval e X.env) :: starEach es X.env := by rfl) (hpl : (backTo pos (starEach es X.env)).any (·.1) = false := by rfl) : DE X W (.Call (.Name "repr" p) (e :: es) [] pos) (tCB (rReprE X.K) t) (fB (gD reprE) fA) := de_B (cr_reprE gd hu) bok_reprE (by decide +kernel) hm ha hg (by decide) (by decide) he hpl
end
noncomputable def gEq0 : G2 := fun ra rb S => match ra.sv S, rb.peek S with
  | some (.dat (.tup ds)), some (.tup []) => some (.b ds.isEmpty, S)
  | _, _ => none
section
variable {X : Cx} {W : WX} {a b : Expr} {pos : Pos} {ta tb : TE} {fa fb : FE}
end
@[simp] theorem gb_eq0 {ra rb : R} {S : Sto} {kk : R → Sto → Prop} : Gb (gEq0 ra rb S) kk = Ob (ra.sv S) fun x => ∃ ds, x = .dat (.tup ds) ∧ Ob (rb.peek S) fun d => d = .tup [] ∧ kk (.b ds.isEmpty) S := by
  unfold gEq0
  cases e1 : ra.sv S with
  | none => simp
  | some x =>
    cases x with
    | dat d1 =>
      cases d1 with
      | tup ds =>
        cases e2 : rb.peek S with
        | none => simp [e2]
        | some d => cases d with
          | tup es => cases es <;> simp [e2]
          | _ => simp [e2]
      | _ => simp
    | _ => simp
end L3
namespace L3
open PySem PySem.Spec PyProof.Rows L2
noncomputable def spJ (K : PySem.W.Frag) (C : Addr) (fld : Str) (ok : V → Hp → Prop) : Sp := fun vs H Q _ => ∃ a v, vs = [.ref a, v] ∧ ok v H ∧ H a = some (exo a C none) ∧ ∀ dx, H dx = none → dx ≠ a → Q .non (upd (upd H dx (exd dx [(fld, v)])) a (exo a C (some dx)))
section
variable {K : PySem.W.Frag} {W : WX} {C : Addr} {fld : Str} {ok : V → Hp → Prop} {okD : D → Bool} {ta : TA} {fa : FA}
end
section
variable {B newId initId : String} {tl : List Value} {X : Cx} {x : Str} {e : Expr} {es : List Expr} {ta : L2.TA} {p p' p1 p2 pos : Pos}
end
structure RaiseJ (P : Program) (w : World) (K : PySem.W.Frag) (mg : Str → Option Value) (base : Heap) (x : Str) (C : Addr) (fld : Str) (okD : D → Bool) : Prop where
  at_ : mg x = some (.ref C)
  ex : ∃ (B newId initId : String) (tl : List Value) (fI : Addr) (fd : FuncData) (ps : List Str) (ok : V → Hp → Prop), BaseG B newId initId tl ∧ OxG K newId tl C ∧ PySem.W.findIn K (.ref C) "__init__" = some (some (.ref fI)) ∧
    PySem.W.typeIn K (.ref fI) = some (.type "function") ∧ FG P w K mg base 1 fI fd ps (spJ K C fld ok) ∧ Binds K fd ps [] ∧ (∀ H v d, Rp K H v d → okD d = true → ok v H)
section
variable {X : Cx} {W : WX} {x : Str} {C : Addr} {fld : Str} {okD : D → Bool} {e : Expr} {es : List Expr} {ta : TA} {fa : FA} {p pos pos1 : Pos}
end
section
variable {P : Program} {w : World} {K : PySem.W.Frag} {mg : Str → Option Value} {base : Heap} {newId : String} {tl : List Value} {C f : Addr} {fd : FuncData} {st : Stmt} {sn an qual fld : Str} {ok : V → Hp → Prop} {te : L2.TE}
end
theorem log2_12 {n : Nat} (h : n < 10 ^ 12) : n.log2 < 60 := by
  by_cases h0 : n = 0
  · subst h0; decide
  · exact (Nat.log2_lt h0).mpr (Nat.lt_of_lt_of_le h (by decide))
end L3
namespace L3
open PySem PySem.Spec PyProof.Rows L2 PySem.MeetsSeq PySem.SeqAt
section
variable {A : Around} {s : Shared}
end
section
variable {A : Around} {h : Shared}
end
section
variable {X : Cx} {pins : List (Addr × Obj)} {σ : Sl} {H : Hp} {s : Shared}
end
section
variable {X : Cx} {W : WX} {a b : Expr} {pos : Pos} {ta tb : TE} {fa fb : FE}
end
section
variable {X : Cx} {W : WX} {a b : Expr} {pos : Pos} {ta tb : TE} {fa fb : FE}
end
end L3
namespace L3
open PySem PySem.Spec PyProof.Rows L2
section
variable {X : Cx} {W : WX} {a b : Expr} {pos : Pos} {ta tb : TE} {fa fb : FE}
end
end L3
namespace L3
open PySem PySem.Spec PyProof.Rows L2
section
variable {X : Cx} {W : WX} {o e a b : Expr} {es : List Expr} {p apos pos : Pos} {to te ta tb : TE} {fo fe fa fb : FE} {t : TA} {fA : FA}
noncomputable def fWords (fo : FE) : FE := bindE fo fun ro S1 => match ro.peek S1 with
  | some (.str x) => if x.length ≤ 1000000 then some (.ok (.val (.own ((Txt.words x).map fun z => .dat (.str z)))) S1) else none
  | _ => none
noncomputable def rWords : V → List V → Hp → VK → Prop := fun x xs H Q => ∃ a, x = .str a ∧ xs = [] ∧ a.length + 2 ≤ sizeLine ∧ rNewStrs (Txt.words a) H Q
theorem ev_words {K : PySem.W.Frag} (ho : EV K W to fo) : EV K W (tM0 rWords to) (fWords fo) := fun S σ H Φ A F G st out h Q q => by
  refine run1 (t := to) ho st h q.x fun ro S1 x H1 Φ1 A1 T F1 G1 sp st1 rv nd fz h1 => ?_
  cases e1 : ro.peek S1 with
  | none => rw [e1] at h1; cases h1
  | some d =>
    rw [e1] at h1
    have rp := rv.rp st1 e1
    cases d <;> try cases h1
    rename_i a
    dsimp only at h1
    split at h1
    · rename_i hc
      cases h1
      cases rp
      refine ⟨⟨a, rfl⟩, a, rfl, rfl, k1000002 hc, fun p hp => ?_⟩
      have stay : Step (T ++ F1) G1 H1 Φ1 A1 F1 G1 H1 Φ1 A1 := ⟨fun _ _ e _ => e, fun _ _ e => e, fun _ _ e => .inl e, fun b hb => .inl (by simp [hb]), fun _ h => .inl h, fun _ h => h, Pfx.refl⟩
      have eds : ((Txt.words a).map fun z => SV.dat (.str z)) = ((Txt.words a).map D.str).map SV.dat := by rw [List.map_map]; rfl
      rw [eds] at q
      exact end_list (fun v H' Φ' A' V F' G' s2 st' rvz nd' _ => q v H' Φ' A' V F' G' (Step.trans (T := []) (T1 := V) (F1 := T ++ F1) sp s2) st' rvz nd' fz) stay st1 rps_strs hp
    · cases h1
theorem de_words (ho : DE X W o to fo) (hbase : attributeBase o "split" X.env (eval o X.env) = eval o X.env := by rfl) (hline : (apos.endLine == pos.line) = true := by rfl) :
    DE X W (.Call (.Attribute o "split" apos) [] [] pos) (tM0 rWords to) (fWords fo) :=
  ⟨pe_words ho.pe hbase hline, ev_words ho.ev⟩
noncomputable def dStarts : D → D → Option D
  | .str x, .str y => some (.bl (Txt.startswith x y))
  | _, _ => none
noncomputable def rStarts : V → List V → Hp → VK → Prop := fun x xs H Q => ∃ a b, x = .str a ∧ xs = [.str b] ∧ Q (.bl (Txt.startswith a b)) H
theorem og_starts {K : PySem.W.Frag} : OpG K (fun x y H Q => rStarts x [y] H Q) (g2 dStarts) := opG_scal fun H x y dx dy z rx ry e Q q => by
  cases dx <;> cases dy <;> try cases e
  cases rx
  cases ry
  exact ⟨_, _, rfl, rfl, q _ fun H' => .bl _⟩
theorem de_starts (ho : DE X W o to fo) (he : DE X W e te fe) (hs : starEach [e] X.env = [(false, eval e X.env)] := by rfl) (hbase : attributeBase o "startswith" X.env (eval o X.env) = eval o X.env := by rfl) (hline : (apos.endLine == pos.line) = true := by rfl) :
    DE X W (.Call (.Attribute o "startswith" apos) [e] [] pos) (tM1 rStarts to te) (fM1 (g2 dStarts) fo fe) :=
  ⟨pe_m1 PySem.F.slot_str_startswith PySem.F.type_str_startswith mt_startswith ho.pe he.pe hs hbase hline, ev_m1 og_starts ho.ev he.ev⟩
noncomputable def rIdxS : V → List V → Hp → VK → Prop := fun x xs H Q => ∃ a b k rest, x = .str a ∧ xs = [.str b] ∧ Builtin.Str.occurrences a b 0 a.length 1 = k :: rest ∧ Q (.int (k : Nat)) H
theorem mt_idxS : MtR X "str.index" rIdxS := by
  intro pins s σ H x xs v us Q I rx rs h
  obtain ⟨a, b, k, rest, rfl, rfl, ho, h⟩ := h
  obtain ⟨t, rfl⟩ := rx
  cases rs with
  | cons r1 rs =>
    cases rs
    obtain ⟨u, rfl⟩ := r1
    exact call_gives PySem.F.slot_str_index (typeIs_str _ _ _) PySem.F.entry_str_index (PySem.F.args_str_index_2 _ _) (gives_str_index a b t u k rest ho) ⟨.int _, H, I.tok _, ⟨_, rfl⟩, h⟩
noncomputable def dIdxS : D → D → Option D
  | .str x, .str y => match Builtin.Str.occurrences x y 0 x.length 1 with
    | k :: _ => some (.int (k : Nat))
    | [] => none
  | _, _ => none
theorem og_idxS {K : PySem.W.Frag} : OpG K (fun x y H Q => rIdxS x [y] H Q) (g2 dIdxS) := opG_scal fun H x y dx dy z rx ry e Q q => by
  cases dx <;> cases dy <;> try cases e
  unfold dIdxS at e
  dsimp only at e
  cases rx
  cases ry
  split at e
  · rename_i k rest ho
    cases e
    exact ⟨_, _, k, rest, rfl, rfl, ho, q _ fun H' => .int _⟩
  · cases e
theorem de_idxS (ho : DE X W o to fo) (he : DE X W e te fe) (hs : starEach [e] X.env = [(false, eval e X.env)] := by rfl) (hbase : attributeBase o "index" X.env (eval o X.env) = eval o X.env := by rfl) (hline : (apos.endLine == pos.line) = true := by rfl) :
    DE X W (.Call (.Attribute o "index" apos) [e] [] pos) (tM1 rIdxS to te) (fM1 (g2 dIdxS) fo fe) :=
  ⟨pe_m1 PySem.F.slot_str_index PySem.F.type_str_index mt_idxS ho.pe he.pe hs hbase hline, ev_m1 og_idxS ho.ev he.ev⟩
noncomputable def intSD : List D → Option D
  | [.str x] => if x.length ≤ 640 then (PySem.intText? x).map D.int else none
  | _ => none
noncomputable def rIntS : List V → Hp → VK → Prop := fun xs H Q => ∃ a n, xs = [.str a] ∧ PySem.intText? a = some n ∧ a.length ≤ 640 ∧ Q (.int n) H
theorem bok_intS {K : PySem.W.Frag} : BOk K rIntS (gD intSD) := bok_D fun H vs ds z rr e Q q => by
  unfold intSD at e
  split at e
  · rename_i x
    split at e
    · rename_i hl
      cases en : PySem.intText? x with
      | none => rw [en] at e; cases e
      | some n =>
        rw [en] at e; cases e
        cases rr with
        | cons r rs => cases rs; cases r; exact ⟨_, _, rfl, en, hl, q _ fun _ => .int _⟩
    · cases e
  · cases e
theorem de_intS (hm : X.mg "int" = none) (ha : DA X W (e :: es) t fA) (hg : Gl X "int" := by rfl) (he : starEach (e :: es) X.env = (false, eval e X.env) :: starEach es X.env := by rfl) (hpl : (backTo pos (starEach es X.env)).any (·.1) = false := by rfl) :
    DE X W (.Call (.Name "int" p) (e :: es) [] pos) (tCB rIntS t) (fB (gD intSD) fA) := de_BT call_int_str bok_intS (by decide +kernel) hm ha hg (by decide) (by decide) he hpl
noncomputable def strID : List D → Option D
  | [.int i] => if i.natAbs < 10 ^ 12 then some (.str (toString i)) else none
  | _ => none
noncomputable def rStrI2 : List V → Hp → VK → Prop := fun xs H Q => ∃ i, xs = [.int i] ∧ i.natAbs.log2 < 1920 ∧ Q (.str (toString i)) H
theorem bok_strI {K : PySem.W.Frag} : BOk K rStrI2 (gD strID) := bok_D fun H vs ds z rr e Q q => by
  unfold strID at e
  split at e
  · rename_i i
    split at e
    · rename_i hl
      cases e
      cases rr with
      | cons r rs => cases rs; cases r; exact ⟨_, rfl, Nat.lt_trans (log2_12 hl) (by decide), q _ fun _ => .str _⟩
    · cases e
  · cases e
theorem de_strI (hm : X.mg "str" = none) (ha : DA X W (e :: es) t fA) (hg : Gl X "str" := by rfl) (he : starEach (e :: es) X.env = (false, eval e X.env) :: starEach es X.env := by rfl) (hpl : (backTo pos (starEach es X.env)).any (·.1) = false := by rfl) :
    DE X W (.Call (.Name "str" p) (e :: es) [] pos) (tCB rStrI2 t) (fB (gD strID) fA) := de_BT call_str_int bok_strI (by decide +kernel) hm ha hg (by decide) (by decide) he hpl
noncomputable def lenKD : List D → Option D
  | [.kl ds] => some (.int ds.length)
  | _ => none
theorem bok_lenK {K : PySem.W.Frag} : BOk K (fun xs H Q => ∃ x n, xs = [x] ∧ LenV K x H n ∧ Q (.int n) H) (gD lenKD) := bok_D fun H vs ds z rr e Q q => by
  unfold lenKD at e
  split at e
  · cases e
    cases rr with
    | cons r rs =>
      cases rs
      cases r with
      | kl rd r2 => rw [← r2.length] at q; exact ⟨_, _, rfl, .inl ⟨_, rd, rfl⟩, q _ fun H' => .int _⟩
  · cases e
theorem de_lenK (hm : X.mg "len" = none) (ha : DA X W (e :: es) t fA) (hg : Gl X "len" := by rfl) (he : starEach (e :: es) X.env = (false, eval e X.env) :: starEach es X.env := by rfl) (hpl : (backTo pos (starEach es X.env)).any (·.1) = false := by rfl) : DE X W (.Call (.Name "len" p) (e :: es) [] pos) (tCB (rLenP X.K) t) (fB (gD lenKD) fA) := de_B call_len bok_lenK PySem.boot_len hm ha hg (by decide) (by decide) he hpl
noncomputable def repS (x : Str) (n : Nat) : Str := ⟨(List.replicate n x.cps).foldl (· ++ ·) #[]⟩
noncomputable def rTimesS : R2 := fun x y H Q => ∃ a k, x = .str a ∧ y = .int k ∧ 2 ≤ k ∧ k ≤ 10000 ∧ 1 ≤ a.length ∧ a.length ≤ 10 ∧ Q (.str (repS a k.toNat)) H
theorem op_timesS : OpR X (binaryOp .Mult) rTimesS := by
  rintro pins s σ H x y v u Q I rx ry ⟨a, k, rfl, rfl, h1, h2, h3, h4, q⟩
  obtain ⟨t, rfl⟩ := rx
  obtain ⟨t', rfl⟩ := ry
  have hr : (decide (k < -(2 ^ 63 : Int)) || decide (k ≥ 2 ^ 63)) = false := by
    rw [decide_eq_false (by omega), decide_eq_false (by omega)]; rfl
  have hm : a.length * k.toNat ≤ 100000 := by
    have : a.length * k.toNat ≤ 10 * 10000 := Nat.mul_le_mul h4 (by omega)
    omega
  have ht : Builtin.Str.tooLong (a.length * k.toNat) = false := by
    unfold Builtin.Str.tooLong
    rw [decide_eq_false]
    rw [sizeLine_eq]
    omega
  refine PySem.P.mul_str hr (fun _ _ => ?_) (fun _ _ => ht) ?_
  · have : (1000 : Int) ≤ (2 ^ 63 - 1) / k := (Int.le_ediv_iff_mul_le (by omega)).mpr (by omega)
    omega
  · have hk : (k == 1 || a.length == 0) = false := by
      rw [Bool.or_eq_false_iff, beq_eq_false_iff_ne, beq_eq_false_iff_ne]
      exact ⟨by omega, by omega⟩
    rw [if_neg (by omega), if_neg (by rw [hk]; exact Bool.false_ne_true)]
    refine ⟨?_, .str _, H, I.tok _, ⟨_, rfl⟩, q⟩
    have := size_reps a.cps k.toNat #[]
    show ((List.replicate k.toNat a.cps).foldl (· ++ ·) #[]).size ≤ sizeLine
    rw [this, sizeLine_eq]
    have : a.cps.size = a.length := rfl
    rw [this, Nat.mul_comm]
    simp only [List.size_toArray, List.length_nil]
    omega
noncomputable def dTimesS : D → D → Option D
  | .str a, .int k => if 2 ≤ k ∧ k ≤ 10000 ∧ 1 ≤ a.length ∧ a.length ≤ 10 then some (.str (repS a k.toNat)) else none
  | _, _ => none
theorem og_timesS {K : PySem.W.Frag} : OpG K rTimesS (g2 dTimesS) := opG_scal fun H x y dx dy z rx ry e Q q => by
  cases dx <;> cases dy <;> try cases e
  cases rx
  cases ry
  unfold dTimesS at e
  dsimp only at e
  split at e
  · rename_i hc
    cases e
    exact ⟨_, _, rfl, rfl, hc.1, hc.2.1, hc.2.2.1, hc.2.2.2, q _ fun H' => .str _⟩
  · cases e
theorem de_mulS (ha : DE X W a ta fa) (hb : DE X W b tb fb) : DE X W (.BinOp a .Mult b pos) (tOp rTimesS ta tb) (fBin (g2 dTimesS) fa fb) := de_bin op_timesS og_timesS ha hb
end
noncomputable def rTimesB (K : PySem.W.Frag) : R2 := fun x y H Q => ∃ l k xs, x = .ref l ∧ y = .int k ∧ SqL K H l xs ∧ 0 ≤ k ∧ k ≤ 10000 ∧ xs.length * k.toNat ≤ 1000000 ∧ ∀ p, H p = none → Q (.ref p) (upd H p (.lst (List.replicate k.toNat xs).flatten))
theorem op_timesB {X : Cx} : OpR X (binaryOp .Mult) (rTimesB X.K) := by
  rintro pins s σ H x y v u Q I rx ry ⟨l, k, xs, rfl, rfl, hs, h1, h2, hz, q⟩
  cases rx
  obtain ⟨t, rfl⟩ := ry
  obtain ⟨its, r, pl, _⟩ := I.list hs
  obtain ⟨⟨cls, dd, data, sl⟩, ho, hc, n, hd⟩ := id pl.isList
  simp only at hc hd
  subst hc hd
  have hl := r.length
  have many : its.toArray.size * k.toNat ≤ 1000000 := by rw [List.size_toArray, ← hl]; exact hz
  have fit : ¬ (!Builtin.List.listFitsIndex k) = true := by
    rw [fitsIndex_both (by omega) (by omega)]
    exact Bool.false_ne_true
  have long : ¬ Builtin.List.listTooLong (its.toArray.size * k.toNat) = true := by
    rw [notLongL (by rw [sizeLine_eq]; omega)]
    exact Bool.false_ne_true
  have made : List.foldl (fun x1 x2 => x1 ++ x2) #[] (List.replicate (if its.toArray.isEmpty = true then 0 else k.toNat) its.toArray) = (List.replicate k.toNat its).flatten.toArray := by
    have each : ∀ m : Nat, List.foldl (fun x1 x2 => x1 ++ x2) #[] (List.replicate m its.toArray) = (List.replicate m its).flatten.toArray := fun m => by simpa using foldl_rep its m []
    rw [each]
    cases its with
    | nil => simp
    | cons b r' => rw [if_neg (by simp)]
  refine wpAny_binaryOp_repeat_ref (T := "list") (U := "int") (by decide) ⟨_, ho, rfl⟩ (fun s' => typeIs_int s' k t) noFill_list_mul PySem.F.fills_int_mul PySem.F.slot_int_rmul repeat_list PySem.F.slot_int_index.lookup
    (call_meets PySem.F.slot_int_rmul (typeIs_int s k t) PySem.F.entry_int_rmul (PySem.F.args_int_rmul_2 _ _) (lm_int_rmul_list_any k t l its.toArray n dd sl)
      ⟨ho, rfl, ⟨_, ho, rfl⟩, call_meets PySem.F.slot_list_mul ⟨_, ho, rfl⟩ PySem.F.entry_list_mul (PySem.F.args_list_mul_2 _ _) (lm_list_mul_any l its.toArray n dd sl k t fit (by omega) long) ⟨ho, ?_⟩⟩)
  rw [made]
  exact ⟨.ref _, _, I.lnew (t' := s.toks) (r.rep k.toNat) (by rw [PyProof.Rows.lm_len_rep_flat, Nat.mul_comm, sizeLine_eq]; omega), rfl, q _ I.fresh⟩
noncomputable def gTimesB : G2 := fun ra rb S => match ra.its S, rb.peek S with
  | some (false, ds), some (.int k) => if 0 ≤ k ∧ k ≤ 10000 ∧ ds.length * k.toNat ≤ 1000000 then some (.val (.own (((List.replicate k.toNat ds).flatten).map SV.dat)), S) else none
  | _, _ => none
theorem og_timesB {K : PySem.W.Frag} : OpG K (rTimesB K) gTimesB := by
  intro S σ H Φ A F G x y ra rb T U st rx ry nd rz S' e Q q
  unfold gTimesB at e
  cases e1 : ra.its S with
  | none => rw [e1] at e; cases e
  | some z1 =>
    obtain ⟨t1, ds⟩ := z1
    cases e2 : rb.peek S with
    | none => rw [e1, e2] at e; cases t1 <;> cases e
    | some d =>
      rw [e1, e2] at e
      cases t1 <;> try cases e
      cases d with
      | int k =>
        dsimp only at e
        split at e
        · rename_i hl
          cases e
          have rpy := ry.rp st e2
          cases rpy
          have nd1 : (T ++ (F ++ G)).Nodup := by
            simp only [List.nodup_append, List.mem_append] at nd ⊢
            grind
          obtain ⟨Φ', a, vs, rfl, sq, rr, sp, st'⟩ := its_ok st rx nd1 e1
          have sq : SqL K H a vs := sq
          refine ⟨a, k, vs, rfl, rfl, sq, hl.1, hl.2.1, by rw [rr.length]; exact hl.2.2, fun p hp => ?_⟩
          have sp2 : Step (T ++ (U ++ F)) G H Φ A F G H Φ' A := ⟨sp.keep, sp.le, fun b o e => by
              rcases sp.grow b o e with h | h | h | h
              · exact .inl h
              · exact .inr (.inl (by simp only [List.mem_append] at h ⊢; grind))
              · exact .inr (.inr (.inl h))
              · exact .inr (.inr (.inr h)), fun b hb => by
              rcases sp.ownF b hb with h | h | h
              · exact .inl (by simp only [List.mem_append] at h ⊢; grind)
              · exact .inr (.inl h)
              · exact .inr (.inr h), sp.ownG, sp.live, sp.cells⟩
          exact end_list q sp2 st' (rps_times rr k.toNat) hp
        · cases e
      | _ => cases e
section
variable {X : Cx} {W : WX} {a b : Expr} {pos : Pos} {ta tb : TE} {fa fb : FE}
theorem de_mulB (ha : DE X W a ta fa) (hb : DE X W b tb fb) : DE X W (.BinOp a .Mult b pos) (tOp (rTimesB X.K) ta tb) (fBin gTimesB fa fb) := de_bin op_timesB og_timesB ha hb
end
end L3
namespace FL
open PySem PySem.Spec PyProof.Rows L2 L3
noncomputable def fb__law_begin : FS := (fRet (fDisp [((fC (.str "cells")), (fFrz (fBin gAdd (fVar 0) (fLst (fCons (fC (.int 0)) fNil))))), ((fC (.str "at")), (fC (.int 0))), ((fC (.str "left")), (fC (.int 0))), ((fC (.str "used")), (fC (.int 0)))]))
noncomputable def F__law_begin : FnS := runF 1 1 (fb__law_begin)
noncomputable def fb__law_mixed : FS := (fSeq (fSet 2 (fBin (g2 (dI iMod)) (fBin gAdd (fBin gAdd (fBin gAdd (fBin (g2 (dI iMod)) (fVar 0) (fC (.int 1000000007))) (fBin (g2 (dI iMul)) (fBin (g2 (dI iMul)) (fC (.int 7919)) (fVar 1)) (fVar 1))) (fBin (g2 (dI iMul)) (fC (.int 31)) (fVar 1))) (fC (.int 7))) (fC (.int 2147483647))))
    (fSeq (fSet 2 (fBin (g2 (dI iMod)) (fBin (g2 (dI iMul)) (fBin (g2 (dI iMod)) (fBin (g2 (dI iMul)) (fVar 2) (fVar 2)) (fC (.int 2147483647))) (fVar 2)) (fC (.int 2147483629))))
    (fRet (fBin (g2 (dI iDiv)) (fBin (g2 (dI iMod)) (fBin (g2 (dI iMul)) (fVar 2) (fBin gAdd (fC (.int 69621)) (fBin (g2 (dI iMul)) (fC (.int 2)) (fBin (g2 (dI iMod)) (fVar 1) (fC (.int 1000)))))) (fC (.int 2147483647))) (fC (.int 7))))))
noncomputable def F__law_mixed : FnS := runF 2 3 (fb__law_mixed)
noncomputable def fb__law_next : FS := (fSeq (fIf (fTest (fBin gGt (fBin gIx (fVar 0) (fC (.str "left"))) (fC (.int 0)))) (fSeq (fSet 2 (fBin (g2 (dI iMod)) (fBin gIx (fVar 0) (fC (.str "left"))) (fVar 1)))
    (fSeq (fStore (fVar 0) (fC (.str "left")) (fBin (g2 (dI iDiv)) (fBin gIx (fVar 0) (fC (.str "left"))) (fVar 1)))
    (fRet (fVar 2)))) fNext)
    (fSeq (fSet 3 (fBin gIx (fVar 0) (fC (.str "cells"))))
    (fSeq (fSet 4 (fBin gIx (fVar 3) (fBin (g2 (dI iMod)) (fBin gIx (fVar 0) (fC (.str "at"))) (fB (gD lenD) (fCons (fVar 3) fNil)))))
    (fSeq (fStore (fVar 0) (fC (.str "at")) (fBin gAdd (fBin gIx (fVar 0) (fC (.str "at"))) (fC (.int 1))))
    (fSeq (fIf (fAnd (fTest (fBin gGe (fVar 4) (fBin (g2 (dI iPow)) (fC (.int 10)) (fC (.int 18))))) (fTest (fBin gLe (fBin gIx (fVar 0) (fC (.str "at"))) (fB (gD lenD) (fCons (fVar 3) fNil))))) (fSeq (fStore (fVar 0) (fC (.str "left")) (fBin (g2 (dI iDiv)) (fVar 4) (fVar 1)))
    (fRet (fBin (g2 (dI iMod)) (fVar 4) (fVar 1)))) fNext)
    (fSeq (fStore (fVar 0) (fC (.str "used")) (fBin gAdd (fBin gIx (fVar 0) (fC (.str "used"))) (fC (.int 1))))
    (fRet (fBin (g2 (dI iMod)) (fGo F__law_mixed [] (fCons (fGo F__law_mixed [] (fCons (fVar 4) (fCons (fBin gIx (fVar 0) (fC (.str "at"))) fNil))) (fCons (fBin gIx (fVar 0) (fC (.str "used"))) fNil))) (fVar 1)))))))))
noncomputable def F__law_next : FnS := runF 2 5 (fb__law_next)
end FL
namespace FL
open PySem PySem.Spec PyProof.Rows L2 L3
end FL
namespace FL
open PySem PySem.Spec PyProof.Rows L2 L3
end FL
namespace FL
open PySem PySem.Spec PyProof.Rows L2 L3
end FL
namespace FL
open PySem PySem.Spec PyProof.Rows L2 L3
end FL
namespace FL
open PySem PySem.Spec PyProof.Rows L2 L3
noncomputable def fb_is_whole : FS := (fRet (fAndV (fIsi "int" (fVar 0)) (fAndV (fNotV (fIsi "bool" (fVar 0))) (fChn gLe gLe (fVar 1) (fVar 0) (fVar 2)))))
noncomputable def F_is_whole : FnS := runF 3 3 (fb_is_whole)
noncomputable def fb_is_name : FS := (fSeq (fIf (fOr (fNot (fTru (fIsi "str" (fVar 0)))) (fNot (fTest (fChn gLe gLe (fC (.int 1)) (fB (gD lenD) (fCons (fVar 0) fNil)) (fC (.int 8)))))) (fRet (fC (.bl false))) fNext)
    (fRet (fB (gD allD) (fCons (fComp (.nm 1) (fItems (fVar 0)) fYes (fBin (g2 (inD false)) (fVar 1) (fC (.str "abcdefghijklmnopqrstuvwxyz"))) [1]) fNil))))
noncomputable def F_is_name : FnS := runF 1 2 (fb_is_name)
noncomputable def fb_is_leg : FS := (fSeq (fIf (fOr (fNot (fTru (fIsi "tuple" (fVar 0)))) (fOr (fTest (fBin (g2 dNe) (fB (gD lenD) (fCons (fVar 0) fNil)) (fC (.int 3)))) (fNot (fTru (fGo F_is_name [] (fCons (fBin gIx (fVar 0) (fC (.int 0))) fNil)))))) (fRet (fC (.bl false))) fNext)
    (fRet (fAndV (fGo F_is_whole [] (fCons (fBin gIx (fVar 0) (fC (.int 1))) (fCons (fC (.int 0)) (fCons (fC (.int 7)) fNil)))) (fAndV (fGo F_is_whole [] (fCons (fBin gIx (fVar 0) (fC (.int 2))) (fCons (fC (.int 0)) (fCons (fC (.int 7)) fNil)))) (fBin (g2 dNe) (fBin gIx (fVar 0) (fC (.int 1))) (fBin gIx (fVar 0) (fC (.int 2))))))))
noncomputable def F_is_leg : FnS := runF 1 1 (fb_is_leg)
noncomputable def lb_is_legs_1 : FS := (fIf (fAnd (fTest (fBin (g2 dEq) (fVar 2) (fC (.kt [(.str "ride")])))) (fNot (fTru (fVar 1)))) (fSet 1 (fFrz (fC (.bl true)))) (fIf (fTru (fGo F_is_leg [] (fCons (fVar 2) fNil))) (fSet 1 (fFrz (fC (.bl false)))) (fRet (fC (.bl false)))))
noncomputable def fb_is_legs : FS := (fSeq (fIf (fOr (fNot (fTru (fIsi "tuple" (fVar 0)))) (fNot (fTest (fChn gLe gLe (fC (.int 1)) (fB (gD lenD) (fCons (fVar 0) fNil)) (fC (.int 60)))))) (fRet (fC (.bl false))) fNext)
    (fSeq (fSet 1 (fFrz (fC (.bl true))))
    (fSeq (fFor (.nm 2) (fItems (fVar 0)) lb_is_legs_1)
    (fRet (fNotV (fVar 1))))))
noncomputable def F_is_legs : FnS := runF 1 3 (fb_is_legs)
end FL
namespace FL
open PySem PySem.Spec PyProof.Rows L2 L3
noncomputable def fb_is_stretch : FS := (fSeq (fIf (fOr (fNot (fTru (fIsi "tuple" (fVar 0)))) (fTest (fBin (g2 dNe) (fB (gD lenD) (fCons (fVar 0) fNil)) (fC (.int 3))))) (fRet (fC (.bl false))) fNext)
    (fRet (fAndV (fGo F_is_whole [] (fCons (fBin gIx (fVar 0) (fC (.int 0))) (fCons (fC (.int 1)) (fCons (fC (.int 999)) fNil)))) (fB (gD allD) (fCons (fComp (.nm 1) (fItems (fSl (fVar 0) (some (fC (.int 1))) none)) fYes (fGo F_is_whole [] (fCons (fVar 1) (fCons (fC (.int 0)) (fCons (fC (.int 999)) fNil)))) [1]) fNil)))))
noncomputable def F_is_stretch : FnS := runF 1 2 (fb_is_stretch)
noncomputable def fb_ends_of : FS := (fSeq (fAsg (.tp [(.nm 2), (.nm 3)]) (fSl (fVar 0) (some (fVar 1)) (some (fBin gAdd (fVar 1) (fC (.int 2))))))
    (fRet (fTup (fCons (fB (gD minTD) (fCons (fVar 2) (fCons (fVar 3) fNil))) (fCons (fB (gD maxTD) (fCons (fVar 2) (fCons (fVar 3) fNil))) fNil)))))
noncomputable def F_ends_of : FnS := runF 2 4 (fb_ends_of)
noncomputable def fb_is_section : FS := (fSeq (fIf (fOr (fNot (fTru (fIsi "tuple" (fVar 0)))) (fOr (fTest (fBin (g2 dNe) (fB (gD lenD) (fCons (fVar 0) fNil)) (fC (.int 3)))) (fNot (fTru (fGo F_is_name [] (fCons (fBin gIx (fVar 0) (fC (.int 0))) fNil)))))) (fRet (fC (.bl false))) fNext)
    (fSeq (fAsg (.tp [(.nm 1), (.nm 2)]) (fSl (fVar 0) (some (fC (.int 1))) none))
    (fSeq (fIf (fOr (fNot (fTru (fIsi "tuple" (fVar 1)))) (fNot (fTest (fChn gLe gLe (fC (.int 2)) (fB (gD lenD) (fCons (fVar 1) fNil)) (fC (.int 8)))))) (fRet (fC (.bl false))) fNext)
    (fSeq (fIf (fOr (fNot (fTru (fIsi "tuple" (fVar 2)))) (fTest (fBin (g2 dNe) (fB (gD lenD) (fCons (fVar 2) fNil)) (fBin (g2 (dI iSub)) (fB (gD lenD) (fCons (fVar 1) fNil)) (fC (.int 1)))))) (fRet (fC (.bl false))) fNext)
    (fSeq (fIf (fOr (fNot (fTru (fB (gD allD) (fCons (fComp (.nm 7) (fItems (fVar 1)) fYes (fGo F_is_name [] (fCons (fVar 7) fNil)) [7]) fNil)))) (fNot (fTru (fB (gD allD) (fCons (fComp (.nm 8) (fItems (fVar 2)) fYes (fGo F_is_stretch [] (fCons (fVar 8) fNil)) [8]) fNil))))) (fRet (fC (.bl false))) fNext)
    (fSeq (fSet 3 (fFrz (fComp (.nm 4) (fRange range1 (fCons (fB (gD lenD) (fCons (fVar 2) fNil)) fNil)) fYes (fGo F_ends_of [] (fCons (fVar 1) (fCons (fVar 4) fNil))) [4])))
    (fRet (fAndV (fB (gD allD) (fCons (fComp (.tp [(.nm 5), (.nm 6)]) (fItems (fVar 3)) fYes (fBin (g2 dNe) (fVar 5) (fVar 6)) [5, 6]) fNil)) (fBin (g2 dEq) (fLenSetT (fVar 3)) (fB (gD lenD) (fCons (fVar 3) fNil)))))))))))
noncomputable def F_is_section : FnS := runF 1 9 (fb_is_section)
noncomputable def fb_section_fits : FS := (fRet (fAndV (fGo F_is_section [] (fCons (fVar 2) fNil)) (fBin (g2 (inD true)) (fBin gIx (fVar 2) (fC (.int 0))) (fComp (.nm 3) (fItems (fVar 1)) fYes (fBin gIx (fVar 3) (fC (.int 0))) [3]))))
noncomputable def F_section_fits : FnS := runF 3 4 (fb_section_fits)
noncomputable def fb_halt_fits : FS := (fSeq (fIf (fOr (fNot (fTru (fGo F_is_name [] (fCons (fVar 2) fNil)))) (fAnd (fTest (fBin (g2 dNe) (fVar 1) (fTup fNil))) (fTest (fBin gGe (fBin gIx (fVar 1) (fNeg (fC (.int 1)))) (fVar 2))))) (fRet (fC (.bl false))) fNext)
    (fRet (fB (gD anyD) (fCons (fComp (.nm 3) (fItems (fVar 0)) fYes (fBin (g2 (inD false)) (fVar 2) (fBin gIx (fVar 3) (fC (.int 1)))) [3]) fNil))))
noncomputable def F_halt_fits : FnS := runF 3 4 (fb_halt_fits)
noncomputable def fb_beside_fits : FS := (fSeq (fIf (fOr (fNot (fTru (fIsi "tuple" (fVar 2)))) (fNot (fTest (fChn gLe gLe (fC (.int 2)) (fB (gD lenD) (fCons (fVar 2) fNil)) (fC (.int 4)))))) (fRet (fC (.bl false))) fNext)
    (fSeq (fSet 3 (fFrz (fComp (.nm 4) (fItems (fVar 0)) fYes (fBin gIx (fVar 4) (fC (.int 0))) [4])))
    (fSeq (fIf (fOr (fNot (fTru (fB (gD allD) (fCons (fComp (.nm 6) (fItems (fVar 2)) fYes (fAndV (fGo F_is_name [] (fCons (fVar 6) fNil)) (fBin (g2 (inD false)) (fVar 6) (fVar 3))) [6]) fNil)))) (fTest (fBin (g2 dNe) (fLenSet (fVar 2)) (fB (gD lenD) (fCons (fVar 2) fNil))))) (fRet (fC (.bl false))) fNext)
    (fRet (fNotV (fB (gD anyD) (fCons (fComp (.nm 5) (fItems (fVar 1)) fYes xStuck [5]) fNil)))))))
noncomputable def F_beside_fits : FnS := runF 3 7 (fb_beside_fits)
noncomputable def fb_badge_fits : FS := (fSeq (fIf (fOr (fNot (fTru (fIsi "tuple" (fVar 2)))) (fOr (fTest (fBin (g2 dNe) (fB (gD lenD) (fCons (fVar 2) fNil)) (fC (.int 3)))) (fNot (fTru (fGo F_is_name [] (fCons (fBin gIx (fVar 2) (fC (.int 0))) fNil)))))) (fRet (fC (.bl false))) fNext)
    (fSeq (fIf (fOr (fTest (fBin (g2 (inD true)) (fBin gIx (fVar 2) (fC (.int 1))) (fC (.kt [(.str "length"), (.str "climb"), (.str "days"), (.str "sections")])))) (fNot (fTru (fGo F_is_whole [] (fCons (fBin gIx (fVar 2) (fC (.int 2))) (fCons (fC (.int 1)) (fCons (fC (.int 99999)) fNil))))))) (fRet (fC (.bl false))) fNext)
    (fRet (fBin (g2 (inD true)) (fBin gIx (fVar 2) (fC (.int 0))) (fComp (.nm 3) (fItems (fVar 1)) fYes (fBin gIx (fVar 3) (fC (.int 0))) [3])))))
noncomputable def F_badge_fits : FnS := runF 3 4 (fb_badge_fits)
noncomputable def lb_bad_place_1 : FS := (fIf (fNot (fTru (fGoF 5 [("section_fits", F_section_fits), ("halt_fits", F_halt_fits), ("beside_fits", F_beside_fits), ("badge_fits", F_badge_fits)] (fCons (fBin gIx (fVar 0) (fC (.int 0))) (fCons (fSl (fVar 4) none (some (fVar 6))) (fCons (fVar 7) fNil)))))) (fRet (fTup (fCons (fVar 1) (fCons (fVar 6) fNil)))) fNext)
noncomputable def lb_bad_place_2 : FS := (fSeq (fPar [4, 5] (fCons (fFrz (fBin gIx (fVar 0) (fVar 1))) (fCons (fFrz (fBin gIx (fC (.kt [.fn "section_fits", .fn "halt_fits", .fn "beside_fits", .fn "badge_fits"])) (fVar 1))) fNil)))
    (fSeq (fIf (fOr (fNot (fTru (fIsi "tuple" (fVar 4)))) (fNot (fTest (fChn gLe gLe (fVar 2) (fB (gD lenD) (fCons (fVar 4) fNil)) (fVar 3))))) (fRet (fTup (fCons (fVar 1) fNil))) fNext)
    (fFor (.tp [(.nm 6), (.nm 7)]) (fEnum (fCons (fVar 4) fNil)) lb_bad_place_1)))
noncomputable def fb_bad_place : FS := (fSeq (fIf (fOr (fNot (fTru (fIsi "tuple" (fVar 0)))) (fTest (fBin (g2 dNe) (fB (gD lenD) (fCons (fVar 0) fNil)) (fB (gD lenD) (fCons (fC (.kt [(.kt [(.int 1), (.int 8)]), (.kt [(.int 0), (.int 20)]), (.kt [(.int 0), (.int 4)]), (.kt [(.int 0), (.int 6)])])) fNil))))) (fRet (fTup fNil)) fNext)
    (fSeq (fFor (.tp [(.nm 1), (.tp [(.nm 2), (.nm 3)])]) (fEnum (fCons (fC (.kt [(.kt [(.int 1), (.int 8)]), (.kt [(.int 0), (.int 20)]), (.kt [(.int 0), (.int 4)]), (.kt [(.int 0), (.int 6)])])) fNil)) lb_bad_place_2)
    (fRet (fC .non))))
noncomputable def F_bad_place : FnS := runF 1 8 (fb_bad_place)
noncomputable def fb_need_book : FS := (fSeq (fSet 1 (fFrz (fGo F_bad_place [] (fCons (fVar 0) fNil))))
    (fIf (fTest (fBin (gIs true) (fVar 1) (fC .non))) fStuck fNext))
noncomputable def F_need_book : FnS := runF 1 2 (fb_need_book)
noncomputable def fb_need_legs : FS := (fIf (fNot (fTru (fGo F_is_legs [] (fCons (fVar 0) fNil)))) fStuck fNext)
noncomputable def F_need_legs : FnS := runF 1 1 (fb_need_legs)
noncomputable def fb_rank_of : FS := (fRet (fBin gAdd (fTup (fCons (fIxGT [("book", (.int 0)), ("closed", (.int 1)), ("walk", (.int 2))] (fBin gIx (fVar 0) (fC (.int 0)))) fNil)) (fSl (fVar 0) (some (fC (.int 1))) none)))
noncomputable def F_rank_of : FnS := runF 1 1 (fb_rank_of)
end FL
namespace FL
open PySem PySem.Spec PyProof.Rows L2 L3
end FL
namespace FL
open PySem PySem.Spec PyProof.Rows L2 L3
end FL
namespace FL
open PySem PySem.Spec PyProof.Rows L2 L3
end FL
namespace FL
open PySem PySem.Spec PyProof.Rows L2 L3
noncomputable def fb__law_is_whole : FS := (fRet (fAndV (fIsi "int" (fVar 0)) (fAndV (fNotV (fIsi "bool" (fVar 0))) (fChn gLe gLe (fVar 1) (fVar 0) (fVar 2)))))
noncomputable def F__law_is_whole : FnS := runF 3 3 (fb__law_is_whole)
noncomputable def fb__law_is_name : FS := (fSeq (fSet 1 (fFrz (fC (.str "abcdefghijklmnopqrstuvwxyz"))))
    (fRet (fAndV (fIsi "str" (fVar 0)) (fAndV (fChn gLt gLt (fC (.int 0)) (fB (gD lenD) (fCons (fVar 0) fNil)) (fC (.int 9))) (fBin (g2 dEq) (fComp (.nm 2) (fItems (fVar 0)) (fTest (fBin (g2 (inD true)) (fVar 2) (fVar 1))) (fVar 2) [2]) (fLst fNil))))))
noncomputable def F__law_is_name : FnS := runF 1 3 (fb__law_is_name)
end FL
namespace FL
open PySem PySem.Spec PyProof.Rows L2 L3
noncomputable def fb_need_name_2c4 (k_BadName : Addr) (k_BadDay : Addr) : FS := (fIf (fNot (fTru (fGo F_is_name [] (fCons (fVar 0) fNil)))) (fRaiseC k_BadName) fNext)
noncomputable def F_need_name_2c4 (k_BadName : Addr) (k_BadDay : Addr) : FnS := runF 1 1 (fb_need_name_2c4 k_BadName k_BadDay)
noncomputable def fb_need_day_ad4 (k_BadName : Addr) (k_BadDay : Addr) : FS := (fIf (fNot (fTru (fGo F_is_whole [.dat (.int 0), .dat (.int 9999)] (fCons (fVar 0) fNil)))) (fRaiseC k_BadDay) fNext)
noncomputable def F_need_day_ad4 (k_BadName : Addr) (k_BadDay : Addr) : FnS := runF 1 1 (fb_need_day_ad4 k_BadName k_BadDay)
noncomputable def fb_number_in : FS := (fSeq (fIf (fOr (fNot (fTest (fChn gLe gLe (fC (.int 1)) (fB (gD lenD) (fCons (fVar 0) fNil)) (fC (.int 5))))) (fNot (fTru (fB (gD allD) (fCons (fComp (.nm 3) (fItems (fVar 0)) fYes (fBin (g2 (inD false)) (fVar 3) (fC (.str "0123456789"))) [3]) fNil))))) (fRet (fC .non)) fNext)
    (fSeq (fIf (fAnd (fTru (fM1 (g2 dStarts) (fVar 0) (fC (.str "0")))) (fTest (fBin (g2 dNe) (fVar 0) (fC (.str "0"))))) (fRet (fC .non)) fNext)
    (fSeq (fSet 2 (fFrz (fB (gD intSD) (fCons (fVar 0) fNil))))
    (fRet (fIfE (fTest (fBin gLe (fVar 2) (fVar 1))) (fVar 2) (fC .non))))))
noncomputable def F_number_in : FnS := runF 2 4 (fb_number_in)
noncomputable def fb_rows_of : FS := (fRet (fComp (.nm 1) (fItems (fM1 gSplit (fVar 0) (fC (.str "\n")))) fYes (fWords (fVar 1)) [1]))
noncomputable def F_rows_of : FnS := runF 1 2 (fb_rows_of)
noncomputable def fb__law_sign : FS := (fSeq (fSet 1 (fFrz (fC (.str "abcdefghijklmnopqrstuvwxyzABCDEFGHIJKLMNOPQRSTUVWXYZ0123456789 !\"#$&'()*+,-./:;<=>?\x40[\\]^_`{|}~\n"))))
    (fRet (fBin gIx (fVar 1) (fGo F__law_next [] (fCons (fVar 0) (fCons (fB (gD lenD) (fCons (fVar 1) fNil)) fNil))))))
noncomputable def F__law_sign : FnS := runF 1 2 (fb__law_sign)
noncomputable def fb__law_text : FS := (fSeq (fSet 1 (fFrz (fBin gIx (fLst (fCons (fBin gAdd (fC (.int 1)) (fGo F__law_next [] (fCons (fVar 0) (fCons (fC (.int 3)) fNil)))) (fCons (fC (.int 8)) (fCons (fC (.int 9)) (fCons (fGo F__law_next [] (fCons (fVar 0) (fCons (fC (.int 12)) fNil))) (fCons (fC (.int 7)) fNil)))))) (fGo F__law_next [] (fCons (fVar 0) (fCons (fC (.int 5)) fNil))))))
    (fSeq (fSet 2 (fFrz (fC (.str "abcdefghijklmnopqrstuvwxyz"))))
    (fSeq (fSet 3 (fComp (.nm 4) (fRange range1 (fCons (fVar 1) fNil)) fYes (fBin gIx (fVar 2) (fGo F__law_next [] (fCons (fVar 0) (fCons (fC (.int 26)) fNil)))) [4]))
    (fSeq (fIf (fAnd (fTest (fBin (g2 dEq) (fGo F__law_next [] (fCons (fVar 0) (fCons (fC (.int 3)) fNil))) (fC (.int 0)))) (fTest (fBin gGt (fVar 1) (fC (.int 0))))) (fStore (fVar 3) (fGo F__law_next [] (fCons (fVar 0) (fCons (fVar 1) fNil))) (fGo F__law_sign [] (fCons (fVar 0) fNil))) fNext)
    (fRet (fM1 (g2 dJoin) (fC (.str "")) (fVar 3)))))))
noncomputable def F__law_text : FnS := runF 1 5 (fb__law_text)
noncomputable def fb__law_figures : FS := (fSeq (fSet 1 (fFrz (fBin gIx (fLst (fCons (fC (.int 1)) (fCons (fC (.int 2)) (fCons (fC (.int 3)) (fCons (fC (.int 4)) (fCons (fC (.int 5)) (fCons (fC (.int 5)) (fCons (fC (.int 6)) (fCons (fGo F__law_next [] (fCons (fVar 0) (fCons (fC (.int 8)) fNil))) fNil))))))))) (fGo F__law_next [] (fCons (fVar 0) (fCons (fC (.int 8)) fNil))))))
    (fSeq (fSet 2 (fFrz (fM1 (g2 dJoin) (fC (.str "")) (fComp (.nm 4) (fRange range1 (fCons (fVar 1) fNil)) fYes (fBin gIx (fC (.str "0123456789")) (fGo F__law_next [] (fCons (fVar 0) (fCons (fC (.int 10)) fNil)))) [4]))))
    (fSeq (fSet 2 (fFrz (fBin gAdd (fBin gIx (fLst (fCons (fC (.str "")) (fCons (fC (.str "")) (fCons (fC (.str "")) (fCons (fC (.str "0")) (fCons (fC (.str "-")) (fCons (fC (.str "9999")) (fCons (fC (.str "1000")) fNil)))))))) (fGo F__law_next [] (fCons (fVar 0) (fCons (fC (.int 7)) fNil)))) (fVar 2))))
    (fSeq (fIf (fTest (fBin (g2 dEq) (fGo F__law_next [] (fCons (fVar 0) (fCons (fC (.int 6)) fNil))) (fC (.int 0)))) (fSeq (fSet 3 (fFrz (fGo F__law_next [] (fCons (fVar 0) (fCons (fBin gAdd (fB (gD lenD) (fCons (fVar 2) fNil)) (fC (.int 1))) fNil)))))
    (fSet 2 (fFrz (fBin gAdd (fBin gAdd (fSl (fVar 2) none (some (fVar 3))) (fGo F__law_sign [] (fCons (fVar 0) fNil))) (fSl (fVar 2) (some (fVar 3)) none))))) fNext)
    (fRet (fVar 2))))))
noncomputable def F__law_figures : FnS := runF 1 5 (fb__law_figures)
noncomputable def lb__law_read_1 : FS := (fSet 3 (fFrz (fBin gAdd (fBin (g2 (dI iMul)) (fC (.int 10)) (fVar 3)) (fM1 (g2 dIdxS) (fC (.str "0123456789")) (fVar 4)))))
noncomputable def fb__law_read : FS := (fSeq (fSet 2 (fFrz (fComp (.nm 4) (fItems (fVar 0)) (fTest (fBin (g2 (inD true)) (fVar 4) (fC (.str "0123456789")))) (fVar 4) [4])))
    (fSeq (fIf (fOr (fTest (fBin (g2 dEq) (fVar 0) (fC (.str "")))) (fOr (fTest (fBin gGt (fB (gD lenD) (fCons (fVar 0) fNil)) (fC (.int 5)))) (fOr (fTest (fBin (g2 dNe) (fVar 2) (fLst fNil))) (fAnd (fTest (fBin (g2 dEq) (fBin gIx (fVar 0) (fC (.int 0))) (fC (.str "0")))) (fTest (fBin (g2 dNe) (fVar 0) (fC (.str "0")))))))) (fRet (fC .non)) fNext)
    (fSeq (fSet 3 (fFrz (fC (.int 0))))
    (fSeq (fFor (.nm 4) (fItems (fVar 0)) lb__law_read_1)
    (fRet (fIfE (fTest (fBin gGt (fVar 3) (fVar 1))) (fC .non) (fVar 3)))))))
noncomputable def F__law_read : FnS := runF 2 5 (fb__law_read)
noncomputable def fb__law_said_e48 (k_BadName : Addr) (k_BadDay : Addr) : FS := (fSeq (fSet 2 (fFrz (fC .non)))
    (fSeq (fSet 3 (fFrz (fC (.str "more"))))
    (fSeq (fTryH [(k_BadName, true), (k_BadDay, true)] 4 (fSet 2 (fFrz (fVar 4))) (fSet 3 (fFrz (fIfE (fTest (fBin (g2 dEq) (fVar 0) (fC (.int 0)))) (fGo (F_need_name_2c4 k_BadName k_BadDay) [] (fCons (fVar 1) fNil)) (fGo (F_need_day_ad4 k_BadName k_BadDay) [] (fCons (fVar 1) fNil))))))
    (fSeq (fIf (fTest (fBin (gIs false) (fVar 2) (fC .non))) (fRet (fIfE (fTest (fBin (gIs false) (fVar 3) (fC .non))) (fC (.str "none")) (fC (.str "more")))) fNext)
    (fSeq (fIf (fTru (fIsX [(k_BadName, false), (k_BadDay, false)] (fVar 2))) (fRet (fC (.str "other"))) fNext)
    (fRet (fBin gAdd (fBin gIx (fLst (fCons (fC (.str "")) (fCons (fC (.str "name")) fNil))) (fB (gD intD) (fCons (fIsX [(k_BadName, true), (k_BadDay, false)] (fVar 2)) fNil))) (fBin gIx (fLst (fCons (fC (.str "")) (fCons (fC (.str "day")) fNil))) (fB (gD intD) (fCons (fIsX [(k_BadName, false), (k_BadDay, true)] (fVar 2)) fNil))))))))))
noncomputable def F__law_said_e48 (k_BadName : Addr) (k_BadDay : Addr) : FnS := runF 2 5 (fb__law_said_e48 k_BadName k_BadDay)
noncomputable def fb__law_wholes_right (k_BadName : Addr) (k_BadDay : Addr) : FS := (fSeq (fSet 1 (fFrz (fBin (g2 (dI iSub)) (fGo F__law_next [] (fCons (fVar 0) (fCons (fC (.int 41)) fNil))) (fC (.int 20)))))
    (fSeq (fSet 2 (fFrz (fBin (g2 (dI iSub)) (fBin gAdd (fVar 1) (fGo F__law_next [] (fCons (fVar 0) (fCons (fC (.int 9)) fNil)))) (fC (.int 1)))))
    (fSeq (fSet 3 (fFrz (fLst (fCons (fVar 1) (fCons (fVar 2) (fCons (fBin (g2 (dI iSub)) (fVar 1) (fC (.int 1))) (fCons (fBin gAdd (fVar 2) (fC (.int 1))) (fCons (fC (.int 0)) (fCons (fBin (g2 (dI iPow)) (fC (.int 10)) (fC (.int 30))) (fCons (fNeg (fBin (g2 (dI iPow)) (fC (.int 10)) (fC (.int 30)))) (fCons (fC (.int 9999)) (fCons (fC (.int 10000)) fNil))))))))))))
    (fSeq (fSet 4 (fFrz (fBin gIx (fBin gAdd (fVar 3) (fLst (fCons (fC .non) (fCons (fC (.bl true)) (fCons (fC (.bl false)) (fCons (fC (.str "1")) (fCons (fLst (fCons (fC (.int 1)) fNil)) (fCons (fTup (fCons (fC (.int 1)) fNil)) (fCons (fDNew (.dK [])) fNil))))))))) (fGo F__law_next [] (fCons (fVar 0) (fCons (fC (.int 16)) fNil))))))
    (fSeq (fSet 5 (fFrz (fLst (fCons (fGo F_is_whole [] (fCons (fVar 4) (fCons (fVar 1) (fCons (fVar 2) fNil)))) (fCons (fGo F_is_whole [.dat (.int 9999)] (fCons (fVar 4) (fCons (fVar 1) fNil))) (fCons (fGo F_is_whole [.dat (.int 0), .dat (.int 9999)] (fCons (fVar 4) fNil)) fNil))))))
    (fSeq (fSet 6 (fFrz (fLst (fCons (fGo F__law_is_whole [] (fCons (fVar 4) (fCons (fVar 1) (fCons (fVar 2) fNil)))) (fCons (fGo F__law_is_whole [] (fCons (fVar 4) (fCons (fVar 1) (fCons (fC (.int 9999)) fNil)))) (fCons (fGo F__law_is_whole [] (fCons (fVar 4) (fCons (fC (.int 0)) (fCons (fC (.int 9999)) fNil)))) fNil))))))
    (fRet (fAndV (fBin (g2 dEq) (fB (gD reprE) (fCons (fVar 5) fNil)) (fB (gD reprE) (fCons (fVar 6) fNil))) (fBin (g2 dEq) (fGo (F__law_said_e48 k_BadName k_BadDay) [] (fCons (fC (.int 1)) (fCons (fVar 4) fNil))) (fBin gIx (fLst (fCons (fC (.str "day")) (fCons (fC (.str "none")) fNil))) (fB (gD intD) (fCons (fGo F__law_is_whole [] (fCons (fVar 4) (fCons (fC (.int 0)) (fCons (fC (.int 9999)) fNil)))) fNil))))))))))))
noncomputable def F__law_wholes_right (k_BadName : Addr) (k_BadDay : Addr) : FnS := runF 1 7 (fb__law_wholes_right k_BadName k_BadDay)
noncomputable def fb__law_same : FS := (fSeq (fIf (fTest (fBin (gIs false) (fVar 1) (fC .non))) (fRet (fBin (gIs false) (fVar 0) (fC .non))) fNext)
    (fRet (fAndV (fIsi "int" (fVar 0)) (fAndV (fNotV (fIsi "bool" (fVar 0))) (fBin (g2 dEq) (fVar 0) (fVar 1))))))
noncomputable def F__law_same : FnS := runF 2 2 (fb__law_same)
noncomputable def lb__law_parted_50c_1 : FS := (fSeq (fIf (fTest (fBin (g2 (inD false)) (fVar 3) (fC (.str " \n")))) (fSeq (fIf (fTest (fBin (g2 dNe) (fVar 2) (fC (.str "")))) (fAppend (fBin gIx (fVar 1) (fNeg (fC (.int 1)))) (fVar 2)) fNext)
    (fSet 2 (fFrz (fC (.str ""))))) (fSet 2 (fFrz (fBin gAdd (fVar 2) (fVar 3)))))
    (fIf (fTest (fBin (g2 dEq) (fVar 3) (fC (.str "\n")))) (fAppend (fVar 1) (fLst fNil)) fNext))
noncomputable def fb__law_parted_50c : FS := (fSeq (fPar [1, 2] (fCons (fLst (fCons (fLst fNil) fNil)) (fCons (fFrz (fC (.str ""))) fNil)))
    (fSeq (fFor (.nm 3) (fItems (fBin gAdd (fVar 0) (fC (.str "\n")))) lb__law_parted_50c_1)
    (fRet (fSl (fFrz (fVar 1)) none (some (fNeg (fC (.int 1))))))))
noncomputable def F__law_parted_50c : FnS := runF 1 4 (fb__law_parted_50c)
noncomputable def lb__law_rows_right_1 : FS := (fSeq (fSet 4 (fGo F_rows_of [] (fCons (fVar 2) fNil)))
    (fSeq (fIf (fOr (fNot (fTru (fIsi "list" (fVar 4)))) (fTest (fBin (g2 dNe) (fVar 4) (fGo F__law_parted_50c [] (fCons (fVar 2) fNil))))) (fRet (fC (.bl false))) fNext)
    (fSeq (fAppend (fBin gIx (fVar 4) (fGo F__law_next [] (fCons (fVar 0) (fCons (fB (gD lenD) (fCons (fVar 4) fNil)) fNil)))) (fC (.str "more")))
    (fAppend (fVar 4) (fC (.str "more"))))))
noncomputable def fb__law_rows_right : FS := (fSeq (fSet 1 (fFrz (fLst (fCons (fGo F__law_sign [] (fCons (fVar 0) fNil)) (fCons (fC (.str "-")) (fCons (fC (.str "7")) (fCons (fC (.str " ")) (fCons (fC (.str "\n")) (fCons (fC (.str " ")) (fCons (fC (.str "(")) (fCons (fC (.str "\n")) (fCons (fGo F__law_sign [] (fCons (fVar 0) fNil)) fNil))))))))))))
    (fSeq (fSet 2 (fFrz (fM1 (g2 dJoin) (fC (.str "")) (fComp (.nm 3) (fRange range1 (fCons (fGo F__law_next [] (fCons (fVar 0) (fCons (fC (.int 40)) fNil))) fNil)) fYes (fBin gIx (fVar 1) (fGo F__law_next [] (fCons (fVar 0) (fCons (fC (.int 9)) fNil)))) [3]))))
    (fSeq (fFor (.nm 3) (fRange range1 (fCons (fC (.int 2)) fNil)) lb__law_rows_right_1)
    (fRet (fC (.bl true))))))
noncomputable def F__law_rows_right : FnS := runF 1 5 (fb__law_rows_right)
noncomputable def lb__law_numbers_right_1 : FS := (fSeq (fIf (fNot (fTru (fGo F__law_same [] (fCons (fGo F_number_in [] (fCons (fVar 4) (fCons (fVar 3) fNil))) (fCons (fGo F__law_read [] (fCons (fVar 4) (fCons (fVar 3) fNil))) fNil))))) (fRet (fC (.bl false))) fNext)
    (fIf (fNot (fTru (fGo F__law_same [] (fCons (fGo F_number_in [.dat (.int 9999)] (fCons (fVar 4) fNil)) (fCons (fGo F__law_read [] (fCons (fVar 4) (fCons (fC (.int 9999)) fNil))) fNil))))) (fRet (fC (.bl false))) fNext))
noncomputable def fb__law_numbers_right : FS := (fSeq (fSet 3 (fFrz (fBin gIx (fLst (fCons (fGo F__law_next [] (fCons (fVar 0) (fCons (fC (.int 100000)) fNil))) (fCons (fC (.int 9999)) (fCons (fC (.int 99999)) (fCons (fC (.int 0)) (fCons (fGo F__law_next [] (fCons (fVar 0) (fCons (fC (.int 30)) fNil))) (fCons (fC (.int 10000)) fNil))))))) (fGo F__law_next [] (fCons (fVar 0) (fCons (fC (.int 6)) fNil))))))
    (fSeq (fFor (.nm 4) (fItems (fTup (fCons (fVar 1) (fCons (fVar 2) (fCons (fC (.str "")) (fCons (fC (.str "-")) (fCons (fC (.str "0")) (fCons (fC (.str "00")) (fCons (fC (.str "-1")) (fCons (fB (gD strID) (fCons (fVar 3) fNil)) (fCons (fB (gD strID) (fCons (fBin gAdd (fVar 3) (fC (.int 1))) fNil)) (fCons (fC (.str "9999")) (fCons (fC (.str "10000")) (fCons (fC (.str "99999")) (fCons (fBin (g2 dTimesS) (fC (.str "7")) (fC (.int 5000))) fNil))))))))))))))) lb__law_numbers_right_1)
    (fRet (fAndV (fBin (gIs false) (fGo F_number_in [.dat (.int 9999)] (fCons (fBin gAdd (fVar 1) (fC (.str "\n"))) fNil)) (fC .non)) (fBin (gIs false) (fGo F_number_in [.dat (.int 9999)] (fCons (fBin gAdd (fC (.str " ")) (fVar 1)) fNil)) (fC .non))))))
noncomputable def F__law_numbers_right : FnS := runF 3 5 (fb__law_numbers_right)
noncomputable def lb_law_92a_1 (k_BadName : Addr) (k_BadDay : Addr) : FS := (fSeq (fSet 7 (fFrz (fGo F_is_name [] (fCons (fVar 6) fNil))))
    (fSeq (fIf (fOr (fNot (fTru (fIsi "bool" (fVar 7)))) (fTest (fBin (g2 dNe) (fVar 7) (fGo F__law_is_name [] (fCons (fVar 6) fNil))))) (fRet (fC (.bl false))) fNext)
    (fIf (fTest (fBin (g2 dNe) (fGo (F__law_said_e48 k_BadName k_BadDay) [] (fCons (fC (.int 0)) (fCons (fVar 6) fNil))) (fBin gIx (fFrz (fLst (fCons (fC (.str "name")) (fCons (fC (.str "none")) fNil)))) (fB (gD intD) (fCons (fGo F__law_is_name [] (fCons (fVar 6) fNil)) fNil))))) (fRet (fC (.bl false))) fNext)))
noncomputable def lb_law_92a_2 (k_BadName : Addr) (k_BadDay : Addr) : FS := (fSeq (fPar [3, 4] (fCons (fFrz (fGo F__law_text [] (fCons (fVar 1) fNil))) (fCons (fFrz (fGo F__law_figures [] (fCons (fVar 1) fNil))) fNil)))
    (fSeq (fSet 5 (fFrz (fBin gIx (fFrz (fLst (fCons (fC .non) (fCons (fC (.int 5)) (fCons (fC (.bl true)) (fCons (fLst (fCons (fC (.str "a")) fNil)) (fCons (fTup (fCons (fC (.str "a")) fNil)) (fCons (fDNew (.dK [])) (fCons (fC (.str "")) (fCons (fC (.str "A")) fNil)))))))))) (fGo F__law_next [] (fCons (fVar 1) (fCons (fC (.int 8)) fNil))))))
    (fSeq (fFor (.nm 6) (fItems (fTup (fCons (fVar 3) (fCons (fVar 4) (fCons (fVar 5) (fCons (fBin gAdd (fVar 3) (fC (.str "\n"))) fNil)))))) (lb_law_92a_1 k_BadName k_BadDay))
    (fSeq (fIf (fNot (fTru (fGo F__law_numbers_right [] (fCons (fVar 1) (fCons (fVar 4) (fCons (fVar 3) fNil)))))) (fRet (fC (.bl false))) fNext)
    (fIf (fOr (fNot (fTru (fGo (F__law_wholes_right k_BadName k_BadDay) [] (fCons (fVar 1) fNil)))) (fNot (fTru (fGo F__law_rows_right [] (fCons (fVar 1) fNil))))) (fRet (fC (.bl false))) fNext)))))
noncomputable def fb_law_92a (k_BadName : Addr) (k_BadDay : Addr) : FS := (fSeq (fSetC 1 (fGo F__law_begin [] (fCons (fVar 0) fNil)))
    (fSeq (fFor (.nm 2) (fRange range1 (fCons (fBin gAdd (fB (gD min2D) (fCons (fC (.int 63)) (fCons (fB (gD lenKD) (fCons (fVar 0) fNil)) fNil))) (fC (.int 1))) fNil)) (lb_law_92a_2 k_BadName k_BadDay))
    (fRet (fAndV (fBin (g2 dEq) (fGo F_rows_of [] (fCons (fC (.str "")) fNil)) (fLst (fCons (fLst fNil) fNil))) (fBin (g2 dEq) (fGo F_rows_of [] (fCons (fBin (g2 dTimesS) (fC (.str "a ")) (fC (.int 3000))) fNil)) (fLst (fCons (fBin gTimesB (fLst (fCons (fC (.str "a")) fNil)) (fC (.int 3000))) fNil)))))))
noncomputable def F_law_92a (k_BadName : Addr) (k_BadDay : Addr) : FnS := runF 1 8 (fb_law_92a k_BadName k_BadDay)
end FL
namespace L3
open PySem PySem.Spec PyProof.Rows L2
section
variable {K : PySem.W.Frag} {x qual : Str} {st : Stmt} {f : Addr} {fd : FuncData}
theorem FunV.binds1 {p0 : Str} (F : FunV K x qual st f fd .none) (h : ∀ (kV doc pm : Value) (an : Option Addr) (cdv ct : Value) (u0 : Value), bindArgs (PySem.W.fnOf x qual (defArgs st) (defBody st) (defScope st) .none kV doc pm an cdv ct) ⟨[u0], []⟩ = pure (([p0] : List Str).zip [u0])) : Binds K fd [p0] [] := F.binds fun kV doc pm an cdv ct us hl => by
  obtain ⟨u0, us, rfl⟩ : ∃ a r, us = a :: r := by cases us with | nil => simp at hl | cons a r => exact ⟨a, r, rfl⟩
  obtain rfl : us = [] := by cases us with | nil => rfl | cons a r => simp at hl
  exact h kV doc pm an cdv ct u0
theorem FunV.binds2 {p0 p1 : Str} (F : FunV K x qual st f fd .none) (h : ∀ (kV doc pm : Value) (an : Option Addr) (cdv ct : Value) (u0 u1 : Value), bindArgs (PySem.W.fnOf x qual (defArgs st) (defBody st) (defScope st) .none kV doc pm an cdv ct) ⟨[u0, u1], []⟩ = pure (([p0, p1] : List Str).zip [u0, u1])) : Binds K fd [p0, p1] [] := F.binds fun kV doc pm an cdv ct us hl => by
  obtain ⟨u0, us, rfl⟩ : ∃ a r, us = a :: r := by cases us with | nil => simp at hl | cons a r => exact ⟨a, r, rfl⟩
  obtain ⟨u1, us, rfl⟩ : ∃ a r, us = a :: r := by cases us with | nil => simp at hl | cons a r => exact ⟨a, r, rfl⟩
  obtain rfl : us = [] := by cases us with | nil => rfl | cons a r => simp at hl
  exact h kV doc pm an cdv ct u0 u1
theorem FunV.binds3 {p0 p1 p2 : Str} (F : FunV K x qual st f fd .none) (h : ∀ (kV doc pm : Value) (an : Option Addr) (cdv ct : Value) (u0 u1 u2 : Value), bindArgs (PySem.W.fnOf x qual (defArgs st) (defBody st) (defScope st) .none kV doc pm an cdv ct) ⟨[u0, u1, u2], []⟩ = pure (([p0, p1, p2] : List Str).zip [u0, u1, u2])) : Binds K fd [p0, p1, p2] [] := F.binds fun kV doc pm an cdv ct us hl => by
  obtain ⟨u0, us, rfl⟩ : ∃ a r, us = a :: r := by cases us with | nil => simp at hl | cons a r => exact ⟨a, r, rfl⟩
  obtain ⟨u1, us, rfl⟩ : ∃ a r, us = a :: r := by cases us with | nil => simp at hl | cons a r => exact ⟨a, r, rfl⟩
  obtain ⟨u2, us, rfl⟩ : ∃ a r, us = a :: r := by cases us with | nil => simp at hl | cons a r => exact ⟨a, r, rfl⟩
  obtain rfl : us = [] := by cases us with | nil => rfl | cons a r => simp at hl
  exact h kV doc pm an cdv ct u0 u1 u2
end
end L3
namespace GK01
open PySem PySem.Spec PyProof.Rows L2 L3 FL
noncomputable def top (i : Nat) : Stmt := PySem.Challenge.pw_pathbook_k01_names_numbers_days_and_rows.main.body.getD i (.Pass ⟨0, 0, 0, 0⟩)
noncomputable abbrev s_is_whole : Stmt := top 17
theorem sc_is_whole : FnScope ["thing", "least", "most"] ["thing", "least", "most"] (defScope s_is_whole) := ⟨rfl, rfl, rfl, by decide +kernel, rfl, by decide +kernel, by decide +kernel⟩
section
variable {P : Program} {w : World} {K : PySem.W.Frag} {mg : Str → Option Value} {base : Heap}
theorem fg_is_whole {f : Addr} {fd : FuncData} {dV : Value} (T : FunV K "is_whole" "is_whole" s_is_whole f fd dV) (z_isinstance : mg "isinstance" = none) (z_int : mg "int" = none) (z_bool : mg "bool" = none) : FG P w K mg base 1 f fd ["thing", "least", "most"] (spF K 3 F_is_whole) := by
  have sc := sc_is_whole
  exact fg_body 3 3 T sc rfl rfl fun cdv A outer s H E room gd => ⟨_,
    (db_one (ds_ret (de_andV (de_isi z_isinstance z_int PyProof.Rows.boot_int (de_var 0)) (de_andV (de_notV (de_isi z_isinstance z_bool PyProof.Rows.boot_bool (de_var 0))) (de_one (de_chn op_leP og_le op_leP og_le (de_var 1) (de_var 0) (de_var 2)))))))⟩
end
noncomputable abbrev s_is_name : Stmt := top 18
theorem sc_is_name : FnScope ["thing", "letter"] ["thing"] (defScope s_is_name) := ⟨rfl, rfl, rfl, by decide +kernel, rfl, by decide +kernel, by decide +kernel⟩
section
variable {P : Program} {w : World} {K : PySem.W.Frag} {mg : Str → Option Value} {base : Heap}
theorem fg_is_name {f : Addr} {fd : FuncData} {dV : Value} (T : FunV K "is_name" "is_name" s_is_name f fd dV) {v_SMALL : V} {v_MOST_LETTERS : V} (z_isinstance : mg "isinstance" = none) (z_str : mg "str" = none) (z_len : mg "len" = none) (z_all : mg "all" = none) (g_MOST_LETTERS : Glb K mg "MOST_LETTERS" v_MOST_LETTERS (.int 8)) (g_SMALL : Glb K mg "SMALL" v_SMALL (.str "abcdefghijklmnopqrstuvwxyz")) : FG P w K mg base 1 f fd ["thing"] (spF K 1 F_is_name) := by
  have sc := sc_is_name
  exact fg_body 1 2 T sc rfl rfl fun cdv A outer s H E room gd => ⟨_,
    (db_cons (ds_if (DW.dt (dw_or (dt_not (dt_truth (de_isi z_isinstance z_str PyProof.Rows.boot_str (de_var 0)))) (dw_or1 (dt_not (dt_chn op_leP og_le op_leP og_le de_int (de_len z_len (da_cons (de_var 0) da_nil)) (de_globD g_MOST_LETTERS)))))) (db_one (ds_ret de_bl)) db_nil)
    (db_one (ds_ret (de_all rfl z_all (da_cons (de_comp rfl sc.nd (di_any (de_var 0)) (blkOk_by (own := [("letter", 1)]) (by rfl)) (fun _ _ _ _ _ => by exact dg_name sc.nd) (fun _ _ _ _ _ => ⟨_, dts_nil⟩) (fun _ _ _ _ _ => ⟨_, (de_in (units_of room) (de_var 1) (de_globD g_SMALL))⟩)) da_nil)))))⟩
end
noncomputable abbrev s_need_name : Stmt := top 19
theorem sc_need_name : FnScope ["thing"] ["thing"] (defScope s_need_name) := ⟨rfl, rfl, rfl, by decide +kernel, rfl, by decide +kernel, by decide +kernel⟩
section
variable {P : Program} {w : World} {K : PySem.W.Frag} {mg : Str → Option Value} {base : Heap}
theorem fg_need_name {f : Addr} {fd : FuncData} {dV : Value} (T : FunV K "need_name" "need_name" s_need_name f fd dV) {k_BadName k_BadDay : Addr} (D_is_name : Df P w K mg base 1 "is_name" 1 F_is_name [] []) (gC_BadName : mg "BadName" = some (.ref k_BadName)) (en_BadName : ExN K k_BadName) : FG P w K mg base 2 f fd ["thing"] (spF K 1 (F_need_name_2c4 k_BadName k_BadDay)) := by
  have sc := sc_need_name
  exact fg_body 1 1 T sc rfl rfl fun cdv A outer s H E room gd => ⟨_,
    (db_one (ds_if (dt_not (dt_truth (de_call D_is_name room gd (da_cons (de_var 0) da_nil)))) (db_one (ds_raiseC en_BadName gC_BadName)) db_nil))⟩
end
noncomputable abbrev s_need_day : Stmt := top 20
theorem sc_need_day : FnScope ["thing"] ["thing"] (defScope s_need_day) := ⟨rfl, rfl, rfl, by decide +kernel, rfl, by decide +kernel, by decide +kernel⟩
section
variable {P : Program} {w : World} {K : PySem.W.Frag} {mg : Str → Option Value} {base : Heap}
theorem fg_need_day {f : Addr} {fd : FuncData} {dV : Value} (T : FunV K "need_day" "need_day" s_need_day f fd dV) {k_BadName k_BadDay : Addr} (D_is_whole_1 : Df P w K mg base 1 "is_whole" 3 F_is_whole [(.int 0), (.int 9999)] [.dat (.int 0), .dat (.int 9999)]) (gC_BadDay : mg "BadDay" = some (.ref k_BadDay)) (en_BadDay : ExN K k_BadDay) : FG P w K mg base 2 f fd ["thing"] (spF K 1 (F_need_day_ad4 k_BadName k_BadDay)) := by
  have sc := sc_need_day
  exact fg_body 1 1 T sc rfl rfl fun cdv A outer s H E room gd => ⟨_,
    (db_one (ds_if (dt_not (dt_truth (de_call D_is_whole_1 room gd (da_cons (de_var 0) da_nil)))) (db_one (ds_raiseC en_BadDay gC_BadDay)) db_nil))⟩
end
noncomputable abbrev s_number_in : Stmt := top 21
theorem sc_number_in : FnScope ["word", "most", "number", "sign"] ["word", "most"] (defScope s_number_in) := ⟨rfl, rfl, rfl, by decide +kernel, rfl, by decide +kernel, by decide +kernel⟩
section
variable {P : Program} {w : World} {K : PySem.W.Frag} {mg : Str → Option Value} {base : Heap}
theorem fg_number_in {f : Addr} {fd : FuncData} {dV : Value} (T : FunV K "number_in" "number_in" s_number_in f fd dV) {v_FIGURES : V} {v_MOST_FIGURES : V} (z_len : mg "len" = none) (z_all : mg "all" = none) (z_int : mg "int" = none) (g_MOST_FIGURES : Glb K mg "MOST_FIGURES" v_MOST_FIGURES (.int 5)) (g_FIGURES : Glb K mg "FIGURES" v_FIGURES (.str "0123456789")) : FG P w K mg base 1 f fd ["word", "most"] (spF K 2 F_number_in) := by
  have sc := sc_number_in
  exact fg_body 2 4 T sc rfl rfl fun cdv A outer s H E room gd => ⟨_,
    (db_cons (ds_if (DW.dt (dw_or (dt_not (dt_chn op_leP og_le op_leP og_le de_int (de_len z_len (da_cons (de_var 0) da_nil)) (de_globD g_MOST_FIGURES))) (dw_or1 (dt_not (dt_truth (de_all rfl z_all (da_cons (de_comp rfl sc.nd (di_any (de_var 0)) (blkOk_by (own := [("sign", 3)]) (by rfl)) (fun _ _ _ _ _ => by exact dg_name sc.nd) (fun _ _ _ _ _ => ⟨_, dts_nil⟩) (fun _ _ _ _ _ => ⟨_, (de_in (units_of room) (de_var 3) (de_globD g_FIGURES))⟩)) da_nil))))))) (db_one (ds_ret de_non)) db_nil)
    (db_cons (ds_if (DW.dt (dw_and (dt_truth (de_starts (de_var 0) de_str)) (dw_and1 (dt_ne (units_of room) (de_var 0) de_str)))) (db_one (ds_ret de_non)) db_nil)
    (db_cons (ds_set sc.nd (de_frz (de_intS z_int (da_cons (de_var 0) da_nil))))
    (db_one (ds_ret (de_ifE (dt_le (de_var 2) (de_var 1)) (de_var 2) de_non))))))⟩
end
noncomputable abbrev s_rows_of : Stmt := top 22
theorem sc_rows_of : FnScope ["text", "row"] ["text"] (defScope s_rows_of) := ⟨rfl, rfl, rfl, by decide +kernel, rfl, by decide +kernel, by decide +kernel⟩
section
variable {P : Program} {w : World} {K : PySem.W.Frag} {mg : Str → Option Value} {base : Heap}
theorem fg_rows_of {f : Addr} {fd : FuncData} {dV : Value} (T : FunV K "rows_of" "rows_of" s_rows_of f fd dV) : FG P w K mg base 1 f fd ["text"] (spF K 1 F_rows_of) := by
  have sc := sc_rows_of
  exact fg_body 1 2 T sc rfl rfl fun cdv A outer s H E room gd => ⟨_,
    (db_one (ds_ret (de_comp rfl sc.nd (di_any (de_split (de_var 0) de_str)) (blkOk_by (own := [("row", 1)]) (by rfl)) (fun _ _ _ _ _ => by exact dg_name sc.nd) (fun _ _ _ _ _ => ⟨_, dts_nil⟩) (fun _ _ _ _ _ => ⟨_, (de_words (de_var 1))⟩))))⟩
end
noncomputable abbrev s__law_begin : Stmt := top 24
theorem sc__law_begin : FnScope ["_law_script"] ["_law_script"] (defScope s__law_begin) := ⟨rfl, rfl, rfl, by decide +kernel, rfl, by decide +kernel, by decide +kernel⟩
section
variable {P : Program} {w : World} {K : PySem.W.Frag} {mg : Str → Option Value} {base : Heap}
theorem fg__law_begin {f : Addr} {fd : FuncData} {dV : Value} (T : FunV K "_law_begin" "_law_begin" s__law_begin f fd dV) : FG P w K mg base 1 f fd ["_law_script"] (spF K 1 F__law_begin) := by
  have sc := sc__law_begin
  exact fg_body 1 1 T sc rfl rfl fun cdv A outer s H E room gd => ⟨_,
    (db_one (ds_ret (de_disp (dp_cons de_str (de_frz (de_add (de_var 0) (de_lst (da_cons de_int da_nil)))) (dp_cons de_str de_int (dp_cons de_str de_int (dp_cons de_str de_int dp_nil)))))))⟩
end
noncomputable abbrev s__law_mixed : Stmt := top 25
theorem sc__law_mixed : FnScope ["_law_cell", "_law_k", "_law_number"] ["_law_cell", "_law_k"] (defScope s__law_mixed) := ⟨rfl, rfl, rfl, by decide +kernel, rfl, by decide +kernel, by decide +kernel⟩
section
variable {P : Program} {w : World} {K : PySem.W.Frag} {mg : Str → Option Value} {base : Heap}
theorem fg__law_mixed {f : Addr} {fd : FuncData} {dV : Value} (T : FunV K "_law_mixed" "_law_mixed" s__law_mixed f fd dV) : FG P w K mg base 1 f fd ["_law_cell", "_law_k"] (spF K 2 F__law_mixed) := by
  have sc := sc__law_mixed
  exact fg_body 2 3 T sc rfl rfl fun cdv A outer s H E room gd => ⟨_,
    (db_cons (ds_set sc.nd (de_mod (de_add (de_add (de_add (de_mod (de_var 0) de_int) (de_mulI (de_mulI de_int (de_var 1)) (de_var 1))) (de_mulI de_int (de_var 1))) de_int) de_int))
    (db_cons (ds_set sc.nd (de_mod (de_mulI (de_mod (de_mulI (de_var 2) (de_var 2)) de_int) (de_var 2)) de_int))
    (db_one (ds_ret (de_fdiv (de_mod (de_mulI (de_var 2) (de_add de_int (de_mulI de_int (de_mod (de_var 1) de_int)))) de_int) de_int)))))⟩
end
noncomputable abbrev s__law_next : Stmt := top 26
theorem sc__law_next : FnScope ["_law_draw", "_law_many", "_law_found", "_law_cells", "_law_cell"] ["_law_draw", "_law_many"] (defScope s__law_next) := ⟨rfl, rfl, rfl, by decide +kernel, rfl, by decide +kernel, by decide +kernel⟩
section
variable {P : Program} {w : World} {K : PySem.W.Frag} {mg : Str → Option Value} {base : Heap}
theorem fg__law_next {f : Addr} {fd : FuncData} {dV : Value} (T : FunV K "_law_next" "_law_next" s__law_next f fd dV) (D__law_mixed : Df P w K mg base 1 "_law_mixed" 2 F__law_mixed [] []) (z_len : mg "len" = none) : FG P w K mg base 2 f fd ["_law_draw", "_law_many"] (spF K 2 F__law_next) := by
  have sc := sc__law_next
  exact fg_body 2 5 T sc rfl rfl fun cdv A outer s H E room gd => ⟨_,
    (db_cons (ds_if (dt_gt (de_ix (unit1_of room) (de_var 0) de_str) de_int) (db_cons (ds_set sc.nd (de_mod (de_ix (unit1_of room) (de_var 0) de_str) (de_var 1)))
    (db_cons (ds_store (unit1_of room) (de_fdiv (de_ix (unit1_of room) (de_var 0) de_str) (de_var 1)) (de_var 0) de_str)
    (db_one (ds_ret (de_var 2))))) db_nil)
    (db_cons (ds_set sc.nd (de_ix (unit1_of room) (de_var 0) de_str))
    (db_cons (ds_set sc.nd (de_ix (unit1_of room) (de_var 3) (de_mod (de_ix (unit1_of room) (de_var 0) de_str) (de_len z_len (da_cons (de_var 3) da_nil)))))
    (db_cons (ds_store (unit1_of room) (de_add (de_ix (unit1_of room) (de_var 0) de_str) de_int) (de_var 0) de_str)
    (db_cons (ds_if (DW.dt (dw_and (dt_ge (de_var 4) (de_pow de_int de_int)) (dw_and1 (dt_le (de_ix (unit1_of room) (de_var 0) de_str) (de_len z_len (da_cons (de_var 3) da_nil)))))) (db_cons (ds_store (unit1_of room) (de_fdiv (de_var 4) (de_var 1)) (de_var 0) de_str)
    (db_one (ds_ret (de_mod (de_var 4) (de_var 1))))) db_nil)
    (db_cons (ds_store (unit1_of room) (de_add (de_ix (unit1_of room) (de_var 0) de_str) de_int) (de_var 0) de_str)
    (db_one (ds_ret (de_mod (de_call D__law_mixed room gd (da_cons (de_call D__law_mixed room gd (da_cons (de_var 4) (da_cons (de_ix (unit1_of room) (de_var 0) de_str) da_nil))) (da_cons (de_ix (unit1_of room) (de_var 0) de_str) da_nil))) (de_var 1))))))))))⟩
end
noncomputable abbrev s__law_sign : Stmt := top 27
theorem sc__law_sign : FnScope ["_law_draw", "_law_signs"] ["_law_draw"] (defScope s__law_sign) := ⟨rfl, rfl, rfl, by decide +kernel, rfl, by decide +kernel, by decide +kernel⟩
section
variable {P : Program} {w : World} {K : PySem.W.Frag} {mg : Str → Option Value} {base : Heap}
theorem fg__law_sign {f : Addr} {fd : FuncData} {dV : Value} (T : FunV K "_law_sign" "_law_sign" s__law_sign f fd dV) (D__law_next : Df P w K mg base 2 "_law_next" 2 F__law_next [] []) (z_len : mg "len" = none) : FG P w K mg base 3 f fd ["_law_draw"] (spF K 1 F__law_sign) := by
  have sc := sc__law_sign
  exact fg_body 1 2 T sc rfl rfl fun cdv A outer s H E room gd => ⟨_,
    (db_cons (ds_set sc.nd (de_frz de_str))
    (db_one (ds_ret (de_ix (unit1_of room) (de_var 1) (de_call D__law_next room gd (da_cons (de_var 0) (da_cons (de_len z_len (da_cons (de_var 1) da_nil)) da_nil)))))))⟩
end
noncomputable abbrev s__law_text : Stmt := top 28
theorem sc__law_text : FnScope ["_law_draw", "_law_many", "_law_letters", "_law_signs", "_law_k"] ["_law_draw"] (defScope s__law_text) := ⟨rfl, rfl, rfl, by decide +kernel, rfl, by decide +kernel, by decide +kernel⟩
section
variable {P : Program} {w : World} {K : PySem.W.Frag} {mg : Str → Option Value} {base : Heap}
theorem fg__law_text {f : Addr} {fd : FuncData} {dV : Value} (T : FunV K "_law_text" "_law_text" s__law_text f fd dV) (D__law_next : Df P w K mg base 2 "_law_next" 2 F__law_next [] []) (D__law_sign : Df P w K mg base 3 "_law_sign" 1 F__law_sign [] []) (z_range : mg "range" = none) : FG P w K mg base 4 f fd ["_law_draw"] (spF K 1 F__law_text) := by
  have sc := sc__law_text
  exact fg_body 1 5 T sc rfl rfl fun cdv A outer s H E room gd => ⟨_,
    (db_cons (ds_set sc.nd (de_frz (de_ix (unit1_of room) (de_lst (da_cons (de_add de_int (de_call D__law_next room gd (da_cons (de_var 0) (da_cons de_int da_nil)))) (da_cons de_int (da_cons de_int (da_cons (de_call D__law_next room gd (da_cons (de_var 0) (da_cons de_int da_nil))) (da_cons de_int da_nil)))))) (de_call D__law_next room gd (da_cons (de_var 0) (da_cons de_int da_nil))))))
    (db_cons (ds_set sc.nd (de_frz de_str))
    (db_cons (ds_setComp rfl sc.nd (di_range1 z_range (da_cons (de_var 1) da_nil)) (blkOk_by (own := [("_law_k", 4)]) (by rfl)) (fun _ _ _ _ _ => by exact dg_name sc.nd) (fun _ _ _ _ _ => ⟨_, dts_nil⟩) (fun _ _ _ _ _ => ⟨_, (de_ix (unit1_of room) (de_var 2) (de_call D__law_next room gd (da_cons (de_var 0) (da_cons de_int da_nil))))⟩))
    (db_cons (ds_if (DW.dt (dw_and (dt_eq (units_of room) (de_call D__law_next room gd (da_cons (de_var 0) (da_cons de_int da_nil))) de_int) (dw_and1 (dt_gt (de_var 1) de_int)))) (db_one (ds_store (unit1_of room) (de_call D__law_sign room gd (da_cons (de_var 0) da_nil)) (de_var 3) (de_call D__law_next room gd (da_cons (de_var 0) (da_cons (de_var 1) da_nil))))) db_nil)
    (db_one (ds_ret (de_join de_str (de_var 3))))))))⟩
end
noncomputable abbrev s__law_figures : Stmt := top 29
theorem sc__law_figures : FnScope ["_law_draw", "_law_many", "_law_word", "_law_at", "_law_k"] ["_law_draw"] (defScope s__law_figures) := ⟨rfl, rfl, rfl, by decide +kernel, rfl, by decide +kernel, by decide +kernel⟩
section
variable {P : Program} {w : World} {K : PySem.W.Frag} {mg : Str → Option Value} {base : Heap}
theorem fg__law_figures {f : Addr} {fd : FuncData} {dV : Value} (T : FunV K "_law_figures" "_law_figures" s__law_figures f fd dV) (D__law_next : Df P w K mg base 2 "_law_next" 2 F__law_next [] []) (D__law_sign : Df P w K mg base 3 "_law_sign" 1 F__law_sign [] []) (z_range : mg "range" = none) (z_len : mg "len" = none) : FG P w K mg base 4 f fd ["_law_draw"] (spF K 1 F__law_figures) := by
  have sc := sc__law_figures
  exact fg_body 1 5 T sc rfl rfl fun cdv A outer s H E room gd => ⟨_,
    (db_cons (ds_set sc.nd (de_frz (de_ix (unit1_of room) (de_lst (da_cons de_int (da_cons de_int (da_cons de_int (da_cons de_int (da_cons de_int (da_cons de_int (da_cons de_int (da_cons (de_call D__law_next room gd (da_cons (de_var 0) (da_cons de_int da_nil))) da_nil))))))))) (de_call D__law_next room gd (da_cons (de_var 0) (da_cons de_int da_nil))))))
    (db_cons (ds_set sc.nd (de_frz (de_join de_str (de_comp rfl sc.nd (di_range1 z_range (da_cons (de_var 1) da_nil)) (blkOk_by (own := [("_law_k", 4)]) (by rfl)) (fun _ _ _ _ _ => by exact dg_name sc.nd) (fun _ _ _ _ _ => ⟨_, dts_nil⟩) (fun _ _ _ _ _ => ⟨_, (de_ix (unit1_of room) de_str (de_call D__law_next room gd (da_cons (de_var 0) (da_cons de_int da_nil))))⟩)))))
    (db_cons (ds_set sc.nd (de_frz (de_add (de_ix (unit1_of room) (de_lst (da_cons de_str (da_cons de_str (da_cons de_str (da_cons de_str (da_cons de_str (da_cons de_str (da_cons de_str da_nil)))))))) (de_call D__law_next room gd (da_cons (de_var 0) (da_cons de_int da_nil)))) (de_var 2))))
    (db_cons (ds_if (dt_eq (units_of room) (de_call D__law_next room gd (da_cons (de_var 0) (da_cons de_int da_nil))) de_int) (db_cons (ds_set sc.nd (de_frz (de_call D__law_next room gd (da_cons (de_var 0) (da_cons (de_add (de_len z_len (da_cons (de_var 2) da_nil)) de_int) da_nil)))))
    (db_one (ds_set sc.nd (de_frz (de_add (de_add (de_sl (de_var 2) .non (.som (de_var 3))) (de_call D__law_sign room gd (da_cons (de_var 0) da_nil))) (de_sl (de_var 2) (.som (de_var 3)) .non)))))) db_nil)
    (db_one (ds_ret (de_var 2)))))))⟩
end
noncomputable abbrev s__law_is_name : Stmt := top 30
theorem sc__law_is_name : FnScope ["_law_thing", "_law_letters", "_law_one"] ["_law_thing"] (defScope s__law_is_name) := ⟨rfl, rfl, rfl, by decide +kernel, rfl, by decide +kernel, by decide +kernel⟩
section
variable {P : Program} {w : World} {K : PySem.W.Frag} {mg : Str → Option Value} {base : Heap}
theorem fg__law_is_name {f : Addr} {fd : FuncData} {dV : Value} (T : FunV K "_law_is_name" "_law_is_name" s__law_is_name f fd dV) (z_isinstance : mg "isinstance" = none) (z_str : mg "str" = none) (z_len : mg "len" = none) : FG P w K mg base 1 f fd ["_law_thing"] (spF K 1 F__law_is_name) := by
  have sc := sc__law_is_name
  exact fg_body 1 3 T sc rfl rfl fun cdv A outer s H E room gd => ⟨_,
    (db_cons (ds_set sc.nd (de_frz de_str))
    (db_one (ds_ret (de_andV (de_isi z_isinstance z_str PyProof.Rows.boot_str (de_var 0)) (de_andV (de_chn op_ltP og_lt op_ltP og_lt de_int (de_len z_len (da_cons (de_var 0) da_nil)) de_int) (de_one (de_eq (units_of room) (de_comp rfl sc.nd (di_any (de_var 0)) (blkOk_by (own := [("_law_one", 2)]) (by rfl)) (fun _ _ _ _ _ => by exact dg_name sc.nd) (fun _ _ _ _ _ => ⟨_, (dts_one (dt_notIn (units_of room) (de_var 2) (de_var 1)))⟩) (fun _ _ _ _ _ => ⟨_, (de_var 2)⟩)) (de_lst da_nil))))))))⟩
end
noncomputable abbrev s__law_is_whole : Stmt := top 31
theorem sc__law_is_whole : FnScope ["_law_thing", "_law_least", "_law_most"] ["_law_thing", "_law_least", "_law_most"] (defScope s__law_is_whole) := ⟨rfl, rfl, rfl, by decide +kernel, rfl, by decide +kernel, by decide +kernel⟩
section
variable {P : Program} {w : World} {K : PySem.W.Frag} {mg : Str → Option Value} {base : Heap}
theorem fg__law_is_whole {f : Addr} {fd : FuncData} {dV : Value} (T : FunV K "_law_is_whole" "_law_is_whole" s__law_is_whole f fd dV) (z_isinstance : mg "isinstance" = none) (z_int : mg "int" = none) (z_bool : mg "bool" = none) : FG P w K mg base 1 f fd ["_law_thing", "_law_least", "_law_most"] (spF K 3 F__law_is_whole) := by
  have sc := sc__law_is_whole
  exact fg_body 3 3 T sc rfl rfl fun cdv A outer s H E room gd => ⟨_,
    (db_one (ds_ret (de_andV (de_isi z_isinstance z_int PyProof.Rows.boot_int (de_var 0)) (de_andV (de_notV (de_isi z_isinstance z_bool PyProof.Rows.boot_bool (de_var 0))) (de_one (de_chn op_leP og_le op_leP og_le (de_var 1) (de_var 0) (de_var 2)))))))⟩
end
noncomputable abbrev s__law_read : Stmt := top 32
theorem sc__law_read : FnScope ["_law_word", "_law_most", "_law_bad", "_law_found", "_law_sign_here"] ["_law_word", "_law_most"] (defScope s__law_read) := ⟨rfl, rfl, rfl, by decide +kernel, rfl, by decide +kernel, by decide +kernel⟩
section
variable {P : Program} {w : World} {K : PySem.W.Frag} {mg : Str → Option Value} {base : Heap}
theorem fg__law_read {f : Addr} {fd : FuncData} {dV : Value} (T : FunV K "_law_read" "_law_read" s__law_read f fd dV) (z_len : mg "len" = none) : FG P w K mg base 1 f fd ["_law_word", "_law_most"] (spF K 2 F__law_read) := by
  have sc := sc__law_read
  exact fg_body 2 5 T sc rfl rfl fun cdv A outer s H E room gd => ⟨_,
    (db_cons (ds_setCompF rfl sc.nd (di_any (de_var 0)) (blkOk_by (own := [("_law_sign_here", 4)]) (by rfl)) (fun _ _ _ _ _ => by exact dg_name sc.nd) (fun _ _ _ _ _ => ⟨_, (dts_one (dt_notIn (units_of room) (de_var 4) de_str))⟩) (fun _ _ _ _ _ => ⟨_, (de_var 4)⟩))
    (db_cons (ds_if (DW.dt (dw_or (dt_eq (units_of room) (de_var 0) de_str) (dw_or (dt_gt (de_len z_len (da_cons (de_var 0) da_nil)) de_int) (dw_or (dt_ne (units_of room) (de_var 2) (de_lst da_nil)) (dw_or1 (DW.dt (dw_and (dt_eq (units_of room) (de_ix (unit1_of room) (de_var 0) de_int) de_str) (dw_and1 (dt_ne (units_of room) (de_var 0) de_str))))))))) (db_one (ds_ret de_non)) db_nil)
    (db_cons (ds_set sc.nd (de_frz de_int))
    (db_cons (ds_for rfl (di_any (de_var 0)) (dg_name sc.nd) (db_one (ds_set sc.nd (de_frz (de_add (de_mulI de_int (de_var 3)) (de_idxS de_str (de_var 4)))))))
    (db_one (ds_ret (de_ifE (dt_gt (de_var 3) (de_var 1)) de_non (de_var 3))))))))⟩
end
noncomputable abbrev s__law_said : Stmt := top 34
theorem sc__law_said : FnScope ["_law_way", "_law_thing", "_law_e", "_law_found", "error"] ["_law_way", "_law_thing"] (defScope s__law_said) := ⟨rfl, rfl, rfl, by decide +kernel, rfl, by decide +kernel, by decide +kernel⟩
section
variable {P : Program} {w : World} {K : PySem.W.Frag} {mg : Str → Option Value} {base : Heap}
theorem fg__law_said {f : Addr} {fd : FuncData} {dV : Value} (T : FunV K "_law_said" "_law_said" s__law_said f fd dV) {k_PathError k_BadName k_BadDay k_BadSection k_BadBook k_BadLegs k_BadThing k_SecondBook k_BadPlan k_BadText k_BadLine : Addr} (D_need_name : Df P w K mg base 2 "need_name" 1 (F_need_name_2c4 k_BadName k_BadDay) [] []) (D_need_day : Df P w K mg base 2 "need_day" 1 (F_need_day_ad4 k_BadName k_BadDay) [] []) (z_isinstance : mg "isinstance" = none) (z_int : mg "int" = none) (gC_PathError : mg "PathError" = some (.ref k_PathError)) (gC_SecondBook : mg "SecondBook" = some (.ref k_SecondBook)) (gC_BadThing : mg "BadThing" = some (.ref k_BadThing)) (gC_BadText : mg "BadText" = some (.ref k_BadText)) (gC_BadSection : mg "BadSection" = some (.ref k_BadSection)) (gC_BadPlan : mg "BadPlan" = some (.ref k_BadPlan)) (gC_BadLine : mg "BadLine" = some (.ref k_BadLine)) (gC_BadLegs : mg "BadLegs" = some (.ref k_BadLegs)) (gC_BadBook : mg "BadBook" = some (.ref k_BadBook)) (gC_BadName : mg "BadName" = some (.ref k_BadName)) (gC_BadDay : mg "BadDay" = some (.ref k_BadDay)) (ex_BadDay_PathError : PySem.W.exmOne K (.ref k_BadDay) (.ref k_PathError) = some true) (ex_BadName_PathError : PySem.W.exmOne K (.ref k_BadName) (.ref k_PathError) = some true) (xc_BadDay : ExcC K k_BadDay) (kt_BadDay_SecondBook : PySem.W.kitOne K (.ref k_BadDay) (.ref k_SecondBook) = some false) (kt_BadDay_BadThing : PySem.W.kitOne K (.ref k_BadDay) (.ref k_BadThing) = some false) (kt_BadDay_BadText : PySem.W.kitOne K (.ref k_BadDay) (.ref k_BadText) = some false) (kt_BadDay_BadSection : PySem.W.kitOne K (.ref k_BadDay) (.ref k_BadSection) = some false) (kt_BadDay_BadPlan : PySem.W.kitOne K (.ref k_BadDay) (.ref k_BadPlan) = some false) (kt_BadDay_BadLine : PySem.W.kitOne K (.ref k_BadDay) (.ref k_BadLine) = some false) (kt_BadDay_BadLegs : PySem.W.kitOne K (.ref k_BadDay) (.ref k_BadLegs) = some false) (kt_BadDay_BadBook : PySem.W.kitOne K (.ref k_BadDay) (.ref k_BadBook) = some false) (xc_BadName : ExcC K k_BadName) (kt_BadName_SecondBook : PySem.W.kitOne K (.ref k_BadName) (.ref k_SecondBook) = some false) (kt_BadName_BadThing : PySem.W.kitOne K (.ref k_BadName) (.ref k_BadThing) = some false) (kt_BadName_BadText : PySem.W.kitOne K (.ref k_BadName) (.ref k_BadText) = some false) (kt_BadName_BadSection : PySem.W.kitOne K (.ref k_BadName) (.ref k_BadSection) = some false) (kt_BadName_BadPlan : PySem.W.kitOne K (.ref k_BadName) (.ref k_BadPlan) = some false) (kt_BadName_BadLine : PySem.W.kitOne K (.ref k_BadName) (.ref k_BadLine) = some false) (kt_BadName_BadLegs : PySem.W.kitOne K (.ref k_BadName) (.ref k_BadLegs) = some false) (kt_BadName_BadBook : PySem.W.kitOne K (.ref k_BadName) (.ref k_BadBook) = some false) (kt_BadDay_BadName : PySem.W.kitOne K (.ref k_BadDay) (.ref k_BadName) = some false) (kt_BadName_BadName : PySem.W.kitOne K (.ref k_BadName) (.ref k_BadName) = some true) (kt_BadDay_BadDay : PySem.W.kitOne K (.ref k_BadDay) (.ref k_BadDay) = some true) (kt_BadName_BadDay : PySem.W.kitOne K (.ref k_BadName) (.ref k_BadDay) = some false) : FG P w K mg base 3 f fd ["_law_way", "_law_thing"] (spF K 2 (F__law_said_e48 k_BadName k_BadDay)) := by
  have sc := sc__law_said
  exact fg_body 2 5 T sc rfl rfl fun cdv A outer s H E room gd => ⟨_,
    (db_cons (ds_set sc.nd (de_frz de_non))
    (db_cons (ds_set sc.nd (de_frz de_str))
    (db_cons (ds_tryH (i := 4) sc.nd gC_PathError (lk_cons ex_BadName_PathError (lk_cons ex_BadDay_PathError lk_nil)) (fun W2 pn xe tkB => ⟨_, (db_one (ds_set sc.nd (de_frz (de_ifE (dt_eq (units_of room) (de_var 0) de_int) (de_call D_need_name room gd (da_cons (de_var 1) da_nil) (tk := tkB)) (de_call D_need_day room gd (da_cons (de_var 1) da_nil) (tk := tkB))))))⟩) (fun a pn => ⟨_, (db_one (ds_set sc.nd (de_frz (de_var 4))))⟩))
    (db_cons (ds_if (dt_isN (de_var 2) de_non) (db_one (ds_ret (de_ifE (dt_isN (de_var 3) de_non) de_str de_str))) db_nil)
    (db_cons (ds_if (dt_truth (de_isXT z_isinstance (pcs_own gC_BadBook (pcs_own gC_BadLegs (pcs_own gC_BadLine (pcs_own gC_BadPlan (pcs_own gC_BadSection (pcs_own gC_BadText (pcs_own gC_BadThing (pcs_own gC_SecondBook pcs_nil)))))))) (by simp) (lk_cons ⟨xc_BadName, (kitA_no kt_BadName_BadBook (kitA_no kt_BadName_BadLegs (kitA_no kt_BadName_BadLine (kitA_no kt_BadName_BadPlan (kitA_no kt_BadName_BadSection (kitA_no kt_BadName_BadText (kitA_no kt_BadName_BadThing (kitA_no kt_BadName_SecondBook kitA_nil))))))))⟩ (lk_cons ⟨xc_BadDay, (kitA_no kt_BadDay_BadBook (kitA_no kt_BadDay_BadLegs (kitA_no kt_BadDay_BadLine (kitA_no kt_BadDay_BadPlan (kitA_no kt_BadDay_BadSection (kitA_no kt_BadDay_BadText (kitA_no kt_BadDay_BadThing (kitA_no kt_BadDay_SecondBook kitA_nil))))))))⟩ lk_nil)) (de_var 2))) (db_one (ds_ret de_str)) db_nil)
    (db_one (ds_ret (de_add (de_ix (unit1_of room) (de_lst (da_cons de_str (da_cons de_str da_nil))) (de_int1 z_int (da_cons (de_isX z_isinstance (pcs_own gC_BadName pcs_nil) (lk_cons ⟨xc_BadName, kt_BadName_BadName⟩ (lk_cons ⟨xc_BadDay, kt_BadDay_BadName⟩ lk_nil)) (de_var 2)) da_nil))) (de_ix (unit1_of room) (de_lst (da_cons de_str (da_cons de_str da_nil))) (de_int1 z_int (da_cons (de_isX z_isinstance (pcs_own gC_BadDay pcs_nil) (lk_cons ⟨xc_BadName, kt_BadName_BadDay⟩ (lk_cons ⟨xc_BadDay, kt_BadDay_BadDay⟩ lk_nil)) (de_var 2)) da_nil)))))))))))⟩
end
noncomputable abbrev s__law_wholes_right : Stmt := top 33
theorem sc__law_wholes_right : FnScope ["_law_draw", "_law_least", "_law_most", "_law_some", "_law_thing", "_law_found", "_law_due"] ["_law_draw"] (defScope s__law_wholes_right) := ⟨rfl, rfl, rfl, by decide +kernel, rfl, by decide +kernel, by decide +kernel⟩
section
variable {P : Program} {w : World} {K : PySem.W.Frag} {mg : Str → Option Value} {base : Heap}
theorem fg__law_wholes_right {f : Addr} {fd : FuncData} {dV : Value} (T : FunV K "_law_wholes_right" "_law_wholes_right" s__law_wholes_right f fd dV) {k_BadName k_BadDay : Addr} (D__law_next : Df P w K mg base 2 "_law_next" 2 F__law_next [] []) (D_is_whole_1 : Df P w K mg base 1 "is_whole" 3 F_is_whole [(.int 0), (.int 9999)] [.dat (.int 0), .dat (.int 9999)]) (D_is_whole_2 : Df P w K mg base 1 "is_whole" 3 F_is_whole [(.int 9999)] [.dat (.int 9999)]) (D_is_whole : Df P w K mg base 1 "is_whole" 3 F_is_whole [] []) (D__law_is_whole : Df P w K mg base 1 "_law_is_whole" 3 F__law_is_whole [] []) (D__law_said : Df P w K mg base 3 "_law_said" 2 (F__law_said_e48 k_BadName k_BadDay) [] []) (z_repr : mg "repr" = none) (z_int : mg "int" = none) : FG P w K mg base 4 f fd ["_law_draw"] (spF K 1 (F__law_wholes_right k_BadName k_BadDay)) := by
  have sc := sc__law_wholes_right
  exact fg_body 1 7 T sc rfl rfl fun cdv A outer s H E room gd => ⟨_,
    (db_cons (ds_set sc.nd (de_frz (de_sub (de_call D__law_next room gd (da_cons (de_var 0) (da_cons de_int da_nil))) de_int)))
    (db_cons (ds_set sc.nd (de_frz (de_sub (de_add (de_var 1) (de_call D__law_next room gd (da_cons (de_var 0) (da_cons de_int da_nil)))) de_int)))
    (db_cons (ds_set sc.nd (de_frz (de_lst (da_cons (de_var 1) (da_cons (de_var 2) (da_cons (de_sub (de_var 1) de_int) (da_cons (de_add (de_var 2) de_int) (da_cons de_int (da_cons (de_pow de_int de_int) (da_cons (de_neg (de_pow de_int de_int)) (da_cons de_int (da_cons de_int da_nil))))))))))))
    (db_cons (ds_set sc.nd (de_frz (de_ix (unit1_of room) (de_add (de_var 3) (de_lst (da_cons de_non (da_cons de_bl (da_cons de_bl (da_cons de_str (da_cons (de_lst (da_cons de_int da_nil)) (da_cons (de_tup (da_cons de_int da_nil)) (da_cons de_dnewK da_nil))))))))) (de_call D__law_next room gd (da_cons (de_var 0) (da_cons de_int da_nil))))))
    (db_cons (ds_set sc.nd (de_frz (de_lst (da_cons (de_call D_is_whole room gd (da_cons (de_var 4) (da_cons (de_var 1) (da_cons (de_var 2) da_nil)))) (da_cons (de_call D_is_whole_2 room gd (da_cons (de_var 4) (da_cons (de_var 1) da_nil))) (da_cons (de_call D_is_whole_1 room gd (da_cons (de_var 4) da_nil)) da_nil))))))
    (db_cons (ds_set sc.nd (de_frz (de_lst (da_cons (de_call D__law_is_whole room gd (da_cons (de_var 4) (da_cons (de_var 1) (da_cons (de_var 2) da_nil)))) (da_cons (de_call D__law_is_whole room gd (da_cons (de_var 4) (da_cons (de_var 1) (da_cons de_int da_nil)))) (da_cons (de_call D__law_is_whole room gd (da_cons (de_var 4) (da_cons de_int (da_cons de_int da_nil)))) da_nil))))))
    (db_one (ds_ret (de_andV (de_eq (units_of room) (de_reprE gd (units_of room) z_repr (da_cons (de_var 5) da_nil)) (de_reprE gd (units_of room) z_repr (da_cons (de_var 6) da_nil))) (de_one (de_eq (units_of room) (de_call D__law_said room gd (da_cons de_int (da_cons (de_var 4) da_nil))) (de_ix (unit1_of room) (de_lst (da_cons de_str (da_cons de_str da_nil))) (de_int1 z_int (da_cons (de_call D__law_is_whole room gd (da_cons (de_var 4) (da_cons de_int (da_cons de_int da_nil)))) da_nil))))))))))))))⟩
end
noncomputable abbrev s__law_same : Stmt := top 35
theorem sc__law_same : FnScope ["_law_found", "_law_due"] ["_law_found", "_law_due"] (defScope s__law_same) := ⟨rfl, rfl, rfl, by decide +kernel, rfl, by decide +kernel, by decide +kernel⟩
section
variable {P : Program} {w : World} {K : PySem.W.Frag} {mg : Str → Option Value} {base : Heap}
theorem fg__law_same {f : Addr} {fd : FuncData} {dV : Value} (T : FunV K "_law_same" "_law_same" s__law_same f fd dV) (z_isinstance : mg "isinstance" = none) (z_int : mg "int" = none) (z_bool : mg "bool" = none) : FG P w K mg base 1 f fd ["_law_found", "_law_due"] (spF K 2 F__law_same) := by
  have sc := sc__law_same
  exact fg_body 2 2 T sc rfl rfl fun cdv A outer s H E room gd => ⟨_,
    (db_cons (ds_if (dt_isN (de_var 1) de_non) (db_one (ds_ret (de_isN (de_var 0) de_non))) db_nil)
    (db_one (ds_ret (de_andV (de_isi z_isinstance z_int PyProof.Rows.boot_int (de_var 0)) (de_andV (de_notV (de_isi z_isinstance z_bool PyProof.Rows.boot_bool (de_var 0))) (de_one (de_eq (units_of room) (de_var 0) (de_var 1))))))))⟩
end
noncomputable abbrev s__law_parted : Stmt := top 36
theorem sc__law_parted : FnScope ["_law_text_here", "_law_found", "_law_word", "_law_sign_here"] ["_law_text_here"] (defScope s__law_parted) := ⟨rfl, rfl, rfl, by decide +kernel, rfl, by decide +kernel, by decide +kernel⟩
section
variable {P : Program} {w : World} {K : PySem.W.Frag} {mg : Str → Option Value} {base : Heap}
theorem fg__law_parted {f : Addr} {fd : FuncData} {dV : Value} (T : FunV K "_law_parted" "_law_parted" s__law_parted f fd dV) : FG P w K mg base 1 f fd ["_law_text_here"] (spF K 1 F__law_parted_50c) := by
  have sc := sc__law_parted
  exact fg_body 1 4 T sc rfl rfl fun cdv A outer s H E room gd => ⟨_,
    (db_cons (ds_par2 (i := 1) (j := 2) rfl sc.nd (da_cons (de_lst (da_cons (de_lst da_nil) da_nil)) (da_cons (de_frz de_str) da_nil)))
    (db_cons (ds_for rfl (di_any (de_add (de_var 0) de_str)) (dg_name sc.nd) (db_cons (ds_if (dt_in (units_of room) (de_var 3) de_str) (db_cons (ds_if (dt_ne (units_of room) (de_var 2) de_str) (db_one (ds_append (de_ix (unit1_of room) (de_var 1) (de_neg de_int)) (de_var 2))) db_nil)
    (db_one (ds_set sc.nd (de_frz de_str)))) (db_one (ds_set sc.nd (de_frz (de_add (de_var 2) (de_var 3))))))
    (db_one (ds_if (dt_eq (units_of room) (de_var 3) de_str) (db_one (ds_append (de_var 1) (de_lst da_nil))) db_nil))))
    (db_one (ds_ret (de_sl (de_frz (de_var 1)) .non (.som (de_neg de_int)))))))⟩
end
noncomputable abbrev s__law_rows_right : Stmt := top 37
theorem sc__law_rows_right : FnScope ["_law_draw", "_law_signs", "_law_text_here", "_law_turn", "_law_found"] ["_law_draw"] (defScope s__law_rows_right) := ⟨rfl, rfl, rfl, by decide +kernel, rfl, by decide +kernel, by decide +kernel⟩
section
variable {P : Program} {w : World} {K : PySem.W.Frag} {mg : Str → Option Value} {base : Heap}
theorem fg__law_rows_right {f : Addr} {fd : FuncData} {dV : Value} (T : FunV K "_law_rows_right" "_law_rows_right" s__law_rows_right f fd dV) (D__law_sign : Df P w K mg base 3 "_law_sign" 1 F__law_sign [] []) (D__law_next : Df P w K mg base 2 "_law_next" 2 F__law_next [] []) (D_rows_of : Df P w K mg base 1 "rows_of" 1 F_rows_of [] []) (D__law_parted : Df P w K mg base 1 "_law_parted" 1 F__law_parted_50c [] []) (z_range : mg "range" = none) (z_isinstance : mg "isinstance" = none) (z_list : mg "list" = none) (z_len : mg "len" = none) : FG P w K mg base 4 f fd ["_law_draw"] (spF K 1 F__law_rows_right) := by
  have sc := sc__law_rows_right
  exact fg_body 1 5 T sc rfl rfl fun cdv A outer s H E room gd => ⟨_,
    (db_cons (ds_set sc.nd (de_frz (de_lst (da_cons (de_call D__law_sign room gd (da_cons (de_var 0) da_nil)) (da_cons de_str (da_cons de_str (da_cons de_str (da_cons de_str (da_cons de_str (da_cons de_str (da_cons de_str (da_cons (de_call D__law_sign room gd (da_cons (de_var 0) da_nil)) da_nil))))))))))))
    (db_cons (ds_set sc.nd (de_frz (de_join de_str (de_comp rfl sc.nd (di_range1 z_range (da_cons (de_call D__law_next room gd (da_cons (de_var 0) (da_cons de_int da_nil))) da_nil)) (blkOk_by (own := [("_law_turn", 3)]) (by rfl)) (fun _ _ _ _ _ => by exact dg_name sc.nd) (fun _ _ _ _ _ => ⟨_, dts_nil⟩) (fun _ _ _ _ _ => ⟨_, (de_ix (unit1_of room) (de_var 1) (de_call D__law_next room gd (da_cons (de_var 0) (da_cons de_int da_nil))))⟩)))))
    (db_cons (ds_for rfl (di_range1 z_range (da_cons de_int da_nil)) (dg_name sc.nd) (db_cons (ds_set sc.nd (de_call D_rows_of room gd (da_cons (de_var 2) da_nil)))
    (db_cons (ds_if (DW.dt (dw_or (dt_not (dt_truth (de_isi z_isinstance z_list PyProof.Rows.boot_list (de_var 4)))) (dw_or1 (dt_ne (units_of room) (de_var 4) (de_call D__law_parted room gd (da_cons (de_var 2) da_nil)))))) (db_one (ds_ret de_bl)) db_nil)
    (db_cons (ds_append (de_ix (unit1_of room) (de_var 4) (de_call D__law_next room gd (da_cons (de_var 0) (da_cons (de_len z_len (da_cons (de_var 4) da_nil)) da_nil)))) de_str)
    (db_one (ds_append (de_var 4) de_str))))))
    (db_one (ds_ret de_bl)))))⟩
end
noncomputable abbrev s__law_numbers_right : Stmt := top 38
theorem sc__law_numbers_right : FnScope ["_law_draw", "_law_word", "_law_text_here", "_law_most", "_law_one"] ["_law_draw", "_law_word", "_law_text_here"] (defScope s__law_numbers_right) := ⟨rfl, rfl, rfl, by decide +kernel, rfl, by decide +kernel, by decide +kernel⟩
section
variable {P : Program} {w : World} {K : PySem.W.Frag} {mg : Str → Option Value} {base : Heap}
theorem fg__law_numbers_right {f : Addr} {fd : FuncData} {dV : Value} (T : FunV K "_law_numbers_right" "_law_numbers_right" s__law_numbers_right f fd dV) (D__law_next : Df P w K mg base 2 "_law_next" 2 F__law_next [] []) (D__law_read : Df P w K mg base 1 "_law_read" 2 F__law_read [] []) (D_number_in : Df P w K mg base 1 "number_in" 2 F_number_in [] []) (D__law_same : Df P w K mg base 1 "_law_same" 2 F__law_same [] []) (D_number_in_1 : Df P w K mg base 1 "number_in" 2 F_number_in [(.int 9999)] [.dat (.int 9999)]) (z_str : mg "str" = none) : FG P w K mg base 3 f fd ["_law_draw", "_law_word", "_law_text_here"] (spF K 3 F__law_numbers_right) := by
  have sc := sc__law_numbers_right
  exact fg_body 3 5 T sc rfl rfl fun cdv A outer s H E room gd => ⟨_,
    (db_cons (ds_set sc.nd (de_frz (de_ix (unit1_of room) (de_lst (da_cons (de_call D__law_next room gd (da_cons (de_var 0) (da_cons de_int da_nil))) (da_cons de_int (da_cons de_int (da_cons de_int (da_cons (de_call D__law_next room gd (da_cons (de_var 0) (da_cons de_int da_nil))) (da_cons de_int da_nil))))))) (de_call D__law_next room gd (da_cons (de_var 0) (da_cons de_int da_nil))))))
    (db_cons (ds_for rfl (di_any (de_tup (da_cons (de_var 1) (da_cons (de_var 2) (da_cons de_str (da_cons de_str (da_cons de_str (da_cons de_str (da_cons de_str (da_cons (de_strI z_str (da_cons (de_var 3) da_nil)) (da_cons (de_strI z_str (da_cons (de_add (de_var 3) de_int) da_nil)) (da_cons de_str (da_cons de_str (da_cons de_str (da_cons (de_mulS de_str de_int) da_nil))))))))))))))) (dg_name sc.nd) (db_cons (ds_if (dt_not (dt_truth (de_call D__law_same room gd (da_cons (de_call D_number_in room gd (da_cons (de_var 4) (da_cons (de_var 3) da_nil))) (da_cons (de_call D__law_read room gd (da_cons (de_var 4) (da_cons (de_var 3) da_nil))) da_nil))))) (db_one (ds_ret de_bl)) db_nil)
    (db_one (ds_if (dt_not (dt_truth (de_call D__law_same room gd (da_cons (de_call D_number_in_1 room gd (da_cons (de_var 4) da_nil)) (da_cons (de_call D__law_read room gd (da_cons (de_var 4) (da_cons de_int da_nil))) da_nil))))) (db_one (ds_ret de_bl)) db_nil))))
    (db_one (ds_ret (de_andV (de_isN (de_call D_number_in_1 room gd (da_cons (de_add (de_var 1) de_str) da_nil)) de_non) (de_one (de_isN (de_call D_number_in_1 room gd (da_cons (de_add de_str (de_var 1)) da_nil)) de_non)))))))⟩
end
noncomputable abbrev s_law : Stmt := top 39
theorem sc_law : FnScope ["_law_script", "_law_draw", "_law_k", "_law_text_here", "_law_word", "_law_odd", "_law_thing", "_law_found"] ["_law_script"] (defScope s_law) := ⟨rfl, rfl, rfl, by decide +kernel, rfl, by decide +kernel, by decide +kernel⟩
section
variable {P : Program} {w : World} {K : PySem.W.Frag} {mg : Str → Option Value} {base : Heap}
theorem fg_law {f : Addr} {fd : FuncData} {dV : Value} (T : FunV K "law" "law" s_law f fd dV) {k_BadName k_BadDay : Addr} (D__law_begin : Df P w K mg base 1 "_law_begin" 1 F__law_begin [] []) (D__law_figures : Df P w K mg base 4 "_law_figures" 1 F__law_figures [] []) (D__law_text : Df P w K mg base 4 "_law_text" 1 F__law_text [] []) (D__law_next : Df P w K mg base 2 "_law_next" 2 F__law_next [] []) (D_is_name : Df P w K mg base 1 "is_name" 1 F_is_name [] []) (D__law_is_name : Df P w K mg base 1 "_law_is_name" 1 F__law_is_name [] []) (D__law_said : Df P w K mg base 3 "_law_said" 2 (F__law_said_e48 k_BadName k_BadDay) [] []) (D__law_numbers_right : Df P w K mg base 3 "_law_numbers_right" 3 F__law_numbers_right [] []) (D__law_wholes_right : Df P w K mg base 4 "_law_wholes_right" 1 (F__law_wholes_right k_BadName k_BadDay) [] []) (D__law_rows_right : Df P w K mg base 4 "_law_rows_right" 1 F__law_rows_right [] []) (D_rows_of : Df P w K mg base 1 "rows_of" 1 F_rows_of [] []) (z_range : mg "range" = none) (z_min : mg "min" = none) (z_len : mg "len" = none) (z_isinstance : mg "isinstance" = none) (z_bool : mg "bool" = none) (z_int : mg "int" = none) : FG P w K mg base 5 f fd ["_law_script"] (spF K 1 (F_law_92a k_BadName k_BadDay)) := by
  have sc := sc_law
  exact fg_body 1 8 T sc rfl rfl fun cdv A outer s H E room gd => ⟨_,
    (db_cons (ds_setC sc.nd (de_call D__law_begin room gd (da_cons (de_var 0) da_nil)))
    (db_cons (ds_for rfl (di_range1 z_range (da_cons (de_add (de_min2 rfl z_min (da_cons de_int (da_cons (de_lenK z_len (da_cons (de_var 0) da_nil)) da_nil))) de_int) da_nil)) (dg_name sc.nd) (db_cons (ds_par2 (i := 3) (j := 4) rfl sc.nd (da_cons (de_frz (de_call D__law_text room gd (da_cons (de_var 1) da_nil))) (da_cons (de_frz (de_call D__law_figures room gd (da_cons (de_var 1) da_nil))) da_nil)))
    (db_cons (ds_set sc.nd (de_frz (de_ix (unit1_of room) (de_frz (de_lst (da_cons de_non (da_cons de_int (da_cons de_bl (da_cons (de_lst (da_cons de_str da_nil)) (da_cons (de_tup (da_cons de_str da_nil)) (da_cons de_dnewK (da_cons de_str (da_cons de_str da_nil)))))))))) (de_call D__law_next room gd (da_cons (de_var 1) (da_cons de_int da_nil))))))
    (db_cons (ds_for rfl (di_any (de_tup (da_cons (de_var 3) (da_cons (de_var 4) (da_cons (de_var 5) (da_cons (de_add (de_var 3) de_str) da_nil)))))) (dg_name sc.nd) (db_cons (ds_set sc.nd (de_frz (de_call D_is_name room gd (da_cons (de_var 6) da_nil))))
    (db_cons (ds_if (DW.dt (dw_or (dt_not (dt_truth (de_isi z_isinstance z_bool PyProof.Rows.boot_bool (de_var 7)))) (dw_or1 (dt_ne (units_of room) (de_var 7) (de_call D__law_is_name room gd (da_cons (de_var 6) da_nil)))))) (db_one (ds_ret de_bl)) db_nil)
    (db_one (ds_if (dt_ne (units_of room) (de_call D__law_said room gd (da_cons de_int (da_cons (de_var 6) da_nil))) (de_ix (unit1_of room) (de_frz (de_lst (da_cons de_str (da_cons de_str da_nil)))) (de_int1 z_int (da_cons (de_call D__law_is_name room gd (da_cons (de_var 6) da_nil)) da_nil)))) (db_one (ds_ret de_bl)) db_nil)))))
    (db_cons (ds_if (dt_not (dt_truth (de_call D__law_numbers_right room gd (da_cons (de_var 1) (da_cons (de_var 4) (da_cons (de_var 3) da_nil)))))) (db_one (ds_ret de_bl)) db_nil)
    (db_one (ds_if (DW.dt (dw_or (dt_not (dt_truth (de_call D__law_wholes_right room gd (da_cons (de_var 1) da_nil)))) (dw_or1 (dt_not (dt_truth (de_call D__law_rows_right room gd (da_cons (de_var 1) da_nil))))))) (db_one (ds_ret de_bl)) db_nil)))))))
    (db_one (ds_ret (de_andV (de_eq (units_of room) (de_call D_rows_of room gd (da_cons de_str da_nil)) (de_lst (da_cons (de_lst da_nil) da_nil))) (de_one (de_eq (units_of room) (de_call D_rows_of room gd (da_cons (de_mulS de_str de_int) da_nil)) (de_lst (da_cons (de_mulB (de_lst (da_cons de_str da_nil)) de_int) da_nil)))))))))⟩
end
theorem all_mk {l : PySem.W.OpenLaw} {w : World} {K : PySem.W.Frag} {h : Heap} {mg : Str → Option Value} {fa f0 f1 f2 f3 f4 f5 f6 f7 f8 f9 f10 f11 f12 f13 f14 f15 f16 f17 f18 f19 f20 f21 : Addr} (KX : K.In h) (G : h.Ns mainGlobals mg) (hfa : mg "law" = some (.ref fa))
    {od0 an0 od1 an1 od2 an2 od3 an3 od4 an4 od5 an5 od6 an6 od7 an7 od8 an8 od9 an9 od10 an10 od11 an11 od12 an12 od13 an13 od14 an14 od15 an15 od16 an16 od17 an17 od18 an18 od19 an19 od20 an20 od21 an21 : Option Addr} {sl0 sl1 sl2 sl3 sl4 sl5 sl6 sl7 sl8 sl9 sl10 sl11 sl12 sl13 sl14 sl15 sl16 sl17 sl18 sl19 sl20 sl21 : Array (Option Value)} {oc0 kV0 dc0 pm0 cd0 ct0 oc1 kV1 dc1 pm1 cd1 ct1 oc2 kV2 dc2 pm2 cd2 ct2 oc3 kV3 dc3 pm3 cd3 ct3 oc4 kV4 dc4 pm4 cd4 ct4 oc5 kV5 dc5 pm5 cd5 ct5 oc6 kV6 dc6 pm6 cd6 ct6 oc7 kV7 dc7 pm7 cd7 ct7 oc8 kV8 dc8 pm8 cd8 ct8 oc9 kV9 dc9 pm9 cd9 ct9 oc10 kV10 dc10 pm10 cd10 ct10 oc11 kV11 dc11 pm11 cd11 ct11 oc12 kV12 dc12 pm12 cd12 ct12 oc13 kV13 dc13 pm13 cd13 ct13 oc14 kV14 dc14 pm14 cd14 ct14 oc15 kV15 dc15 pm15 cd15 ct15 oc16 kV16 dc16 pm16 cd16 ct16 oc17 kV17 dc17 pm17 cd17 ct17 oc18 kV18 dc18 pm18 cd18 ct18 oc19 kV19 dc19 pm19 cd19 ct19 oc20 kV20 dc20 pm20 cd20 ct20 oc21 kV21 dc21 pm21 cd21 ct21 : Value}
    {dt0 : Addr} {xc0 : Value} {xd0 : Option Addr} {xn0 : Nat} {xs0 : Array (Option Value)} {tk0_0 tk0_1 : Tok}
    (d0 : K.lookup dt0 = some ⟨xc0, xd0, .seq #[(.int 0 tk0_0), (.int 9999 tk0_1)] xn0, xs0⟩)
    (a0 : PySem.W.nsIn K mainGlobals "is_whole" = some (some (.ref f0))) (l0 : K.lookup f0 = some ⟨oc0, od0, .func (PySem.W.fnOf "is_whole" "is_whole" (defArgs s_is_whole) (defBody s_is_whole) (defScope s_is_whole) (.ref dt0) kV0 dc0 pm0 an0 cd0 ct0), sl0⟩) (c0 : PySem.W.codeIn K cd0 "is_whole" = true) (k0 : PySem.W.keepIn K (.ref f0) = true)
    (a1 : PySem.W.nsIn K mainGlobals "is_name" = some (some (.ref f1))) (l1 : K.lookup f1 = some ⟨oc1, od1, .func (PySem.W.fnOf "is_name" "is_name" (defArgs s_is_name) (defBody s_is_name) (defScope s_is_name) .none kV1 dc1 pm1 an1 cd1 ct1), sl1⟩) (c1 : PySem.W.codeIn K cd1 "is_name" = true) (k1 : PySem.W.keepIn K (.ref f1) = true)
    (a2 : PySem.W.nsIn K mainGlobals "need_name" = some (some (.ref f2))) (l2 : K.lookup f2 = some ⟨oc2, od2, .func (PySem.W.fnOf "need_name" "need_name" (defArgs s_need_name) (defBody s_need_name) (defScope s_need_name) .none kV2 dc2 pm2 an2 cd2 ct2), sl2⟩) (c2 : PySem.W.codeIn K cd2 "need_name" = true) (k2 : PySem.W.keepIn K (.ref f2) = true)
    (a3 : PySem.W.nsIn K mainGlobals "need_day" = some (some (.ref f3))) (l3 : K.lookup f3 = some ⟨oc3, od3, .func (PySem.W.fnOf "need_day" "need_day" (defArgs s_need_day) (defBody s_need_day) (defScope s_need_day) .none kV3 dc3 pm3 an3 cd3 ct3), sl3⟩) (c3 : PySem.W.codeIn K cd3 "need_day" = true) (k3 : PySem.W.keepIn K (.ref f3) = true)
    {dt4 : Addr} {xc4 : Value} {xd4 : Option Addr} {xn4 : Nat} {xs4 : Array (Option Value)} {tk4_0 : Tok}
    (d4 : K.lookup dt4 = some ⟨xc4, xd4, .seq #[(.int 9999 tk4_0)] xn4, xs4⟩)
    (a4 : PySem.W.nsIn K mainGlobals "number_in" = some (some (.ref f4))) (l4 : K.lookup f4 = some ⟨oc4, od4, .func (PySem.W.fnOf "number_in" "number_in" (defArgs s_number_in) (defBody s_number_in) (defScope s_number_in) (.ref dt4) kV4 dc4 pm4 an4 cd4 ct4), sl4⟩) (c4 : PySem.W.codeIn K cd4 "number_in" = true) (k4 : PySem.W.keepIn K (.ref f4) = true)
    (a5 : PySem.W.nsIn K mainGlobals "rows_of" = some (some (.ref f5))) (l5 : K.lookup f5 = some ⟨oc5, od5, .func (PySem.W.fnOf "rows_of" "rows_of" (defArgs s_rows_of) (defBody s_rows_of) (defScope s_rows_of) .none kV5 dc5 pm5 an5 cd5 ct5), sl5⟩) (c5 : PySem.W.codeIn K cd5 "rows_of" = true) (k5 : PySem.W.keepIn K (.ref f5) = true)
    (a6 : PySem.W.nsIn K mainGlobals "_law_begin" = some (some (.ref f6))) (l6 : K.lookup f6 = some ⟨oc6, od6, .func (PySem.W.fnOf "_law_begin" "_law_begin" (defArgs s__law_begin) (defBody s__law_begin) (defScope s__law_begin) .none kV6 dc6 pm6 an6 cd6 ct6), sl6⟩) (c6 : PySem.W.codeIn K cd6 "_law_begin" = true) (k6 : PySem.W.keepIn K (.ref f6) = true)
    (a7 : PySem.W.nsIn K mainGlobals "_law_mixed" = some (some (.ref f7))) (l7 : K.lookup f7 = some ⟨oc7, od7, .func (PySem.W.fnOf "_law_mixed" "_law_mixed" (defArgs s__law_mixed) (defBody s__law_mixed) (defScope s__law_mixed) .none kV7 dc7 pm7 an7 cd7 ct7), sl7⟩) (c7 : PySem.W.codeIn K cd7 "_law_mixed" = true) (k7 : PySem.W.keepIn K (.ref f7) = true)
    (a8 : PySem.W.nsIn K mainGlobals "_law_next" = some (some (.ref f8))) (l8 : K.lookup f8 = some ⟨oc8, od8, .func (PySem.W.fnOf "_law_next" "_law_next" (defArgs s__law_next) (defBody s__law_next) (defScope s__law_next) .none kV8 dc8 pm8 an8 cd8 ct8), sl8⟩) (c8 : PySem.W.codeIn K cd8 "_law_next" = true) (k8 : PySem.W.keepIn K (.ref f8) = true)
    (a9 : PySem.W.nsIn K mainGlobals "_law_sign" = some (some (.ref f9))) (l9 : K.lookup f9 = some ⟨oc9, od9, .func (PySem.W.fnOf "_law_sign" "_law_sign" (defArgs s__law_sign) (defBody s__law_sign) (defScope s__law_sign) .none kV9 dc9 pm9 an9 cd9 ct9), sl9⟩) (c9 : PySem.W.codeIn K cd9 "_law_sign" = true) (k9 : PySem.W.keepIn K (.ref f9) = true)
    (a10 : PySem.W.nsIn K mainGlobals "_law_text" = some (some (.ref f10))) (l10 : K.lookup f10 = some ⟨oc10, od10, .func (PySem.W.fnOf "_law_text" "_law_text" (defArgs s__law_text) (defBody s__law_text) (defScope s__law_text) .none kV10 dc10 pm10 an10 cd10 ct10), sl10⟩) (c10 : PySem.W.codeIn K cd10 "_law_text" = true) (k10 : PySem.W.keepIn K (.ref f10) = true)
    (a11 : PySem.W.nsIn K mainGlobals "_law_figures" = some (some (.ref f11))) (l11 : K.lookup f11 = some ⟨oc11, od11, .func (PySem.W.fnOf "_law_figures" "_law_figures" (defArgs s__law_figures) (defBody s__law_figures) (defScope s__law_figures) .none kV11 dc11 pm11 an11 cd11 ct11), sl11⟩) (c11 : PySem.W.codeIn K cd11 "_law_figures" = true) (k11 : PySem.W.keepIn K (.ref f11) = true)
    (a12 : PySem.W.nsIn K mainGlobals "_law_is_name" = some (some (.ref f12))) (l12 : K.lookup f12 = some ⟨oc12, od12, .func (PySem.W.fnOf "_law_is_name" "_law_is_name" (defArgs s__law_is_name) (defBody s__law_is_name) (defScope s__law_is_name) .none kV12 dc12 pm12 an12 cd12 ct12), sl12⟩) (c12 : PySem.W.codeIn K cd12 "_law_is_name" = true) (k12 : PySem.W.keepIn K (.ref f12) = true)
    (a13 : PySem.W.nsIn K mainGlobals "_law_is_whole" = some (some (.ref f13))) (l13 : K.lookup f13 = some ⟨oc13, od13, .func (PySem.W.fnOf "_law_is_whole" "_law_is_whole" (defArgs s__law_is_whole) (defBody s__law_is_whole) (defScope s__law_is_whole) .none kV13 dc13 pm13 an13 cd13 ct13), sl13⟩) (c13 : PySem.W.codeIn K cd13 "_law_is_whole" = true) (k13 : PySem.W.keepIn K (.ref f13) = true)
    (a14 : PySem.W.nsIn K mainGlobals "_law_read" = some (some (.ref f14))) (l14 : K.lookup f14 = some ⟨oc14, od14, .func (PySem.W.fnOf "_law_read" "_law_read" (defArgs s__law_read) (defBody s__law_read) (defScope s__law_read) .none kV14 dc14 pm14 an14 cd14 ct14), sl14⟩) (c14 : PySem.W.codeIn K cd14 "_law_read" = true) (k14 : PySem.W.keepIn K (.ref f14) = true)
    (a15 : PySem.W.nsIn K mainGlobals "_law_said" = some (some (.ref f15))) (l15 : K.lookup f15 = some ⟨oc15, od15, .func (PySem.W.fnOf "_law_said" "_law_said" (defArgs s__law_said) (defBody s__law_said) (defScope s__law_said) .none kV15 dc15 pm15 an15 cd15 ct15), sl15⟩) (c15 : PySem.W.codeIn K cd15 "_law_said" = true) (k15 : PySem.W.keepIn K (.ref f15) = true)
    (a16 : PySem.W.nsIn K mainGlobals "_law_wholes_right" = some (some (.ref f16))) (l16 : K.lookup f16 = some ⟨oc16, od16, .func (PySem.W.fnOf "_law_wholes_right" "_law_wholes_right" (defArgs s__law_wholes_right) (defBody s__law_wholes_right) (defScope s__law_wholes_right) .none kV16 dc16 pm16 an16 cd16 ct16), sl16⟩) (c16 : PySem.W.codeIn K cd16 "_law_wholes_right" = true) (k16 : PySem.W.keepIn K (.ref f16) = true)
    (a17 : PySem.W.nsIn K mainGlobals "_law_same" = some (some (.ref f17))) (l17 : K.lookup f17 = some ⟨oc17, od17, .func (PySem.W.fnOf "_law_same" "_law_same" (defArgs s__law_same) (defBody s__law_same) (defScope s__law_same) .none kV17 dc17 pm17 an17 cd17 ct17), sl17⟩) (c17 : PySem.W.codeIn K cd17 "_law_same" = true) (k17 : PySem.W.keepIn K (.ref f17) = true)
    (a18 : PySem.W.nsIn K mainGlobals "_law_parted" = some (some (.ref f18))) (l18 : K.lookup f18 = some ⟨oc18, od18, .func (PySem.W.fnOf "_law_parted" "_law_parted" (defArgs s__law_parted) (defBody s__law_parted) (defScope s__law_parted) .none kV18 dc18 pm18 an18 cd18 ct18), sl18⟩) (c18 : PySem.W.codeIn K cd18 "_law_parted" = true) (k18 : PySem.W.keepIn K (.ref f18) = true)
    (a19 : PySem.W.nsIn K mainGlobals "_law_rows_right" = some (some (.ref f19))) (l19 : K.lookup f19 = some ⟨oc19, od19, .func (PySem.W.fnOf "_law_rows_right" "_law_rows_right" (defArgs s__law_rows_right) (defBody s__law_rows_right) (defScope s__law_rows_right) .none kV19 dc19 pm19 an19 cd19 ct19), sl19⟩) (c19 : PySem.W.codeIn K cd19 "_law_rows_right" = true) (k19 : PySem.W.keepIn K (.ref f19) = true)
    (a20 : PySem.W.nsIn K mainGlobals "_law_numbers_right" = some (some (.ref f20))) (l20 : K.lookup f20 = some ⟨oc20, od20, .func (PySem.W.fnOf "_law_numbers_right" "_law_numbers_right" (defArgs s__law_numbers_right) (defBody s__law_numbers_right) (defScope s__law_numbers_right) .none kV20 dc20 pm20 an20 cd20 ct20), sl20⟩) (c20 : PySem.W.codeIn K cd20 "_law_numbers_right" = true) (k20 : PySem.W.keepIn K (.ref f20) = true)
    (a21 : PySem.W.nsIn K mainGlobals "law" = some (some (.ref f21))) (l21 : K.lookup f21 = some ⟨oc21, od21, .func (PySem.W.fnOf "law" "law" (defArgs s_law) (defBody s_law) (defScope s_law) .none kV21 dc21 pm21 an21 cd21 ct21), sl21⟩) (c21 : PySem.W.codeIn K cd21 "law" = true) (k21 : PySem.W.keepIn K (.ref f21) = true)
    {gt_MOST_LETTERS : Tok}
    (ha_MOST_LETTERS : PySem.W.nsIn K mainGlobals "MOST_LETTERS" = some (some ((.int 8 gt_MOST_LETTERS))))
    {gt_SMALL : Tok}
    (ha_SMALL : PySem.W.nsIn K mainGlobals "SMALL" = some (some ((.str "abcdefghijklmnopqrstuvwxyz" gt_SMALL))))
    {gt_MOST_FIGURES : Tok}
    (ha_MOST_FIGURES : PySem.W.nsIn K mainGlobals "MOST_FIGURES" = some (some ((.int 5 gt_MOST_FIGURES))))
    {gt_FIGURES : Tok}
    (ha_FIGURES : PySem.W.nsIn K mainGlobals "FIGURES" = some (some ((.str "0123456789" gt_FIGURES))))
    (b_isinstance : PySem.W.nsIn K mainGlobals "isinstance" = some none)
    (b_int : PySem.W.nsIn K mainGlobals "int" = some none)
    (b_bool : PySem.W.nsIn K mainGlobals "bool" = some none)
    (b_str : PySem.W.nsIn K mainGlobals "str" = some none)
    (b_len : PySem.W.nsIn K mainGlobals "len" = some none)
    (b_all : PySem.W.nsIn K mainGlobals "all" = some none)
    (b_range : PySem.W.nsIn K mainGlobals "range" = some none)
    (b_repr : PySem.W.nsIn K mainGlobals "repr" = some none)
    (b_list : PySem.W.nsIn K mainGlobals "list" = some none)
    (b_min : PySem.W.nsIn K mainGlobals "min" = some none)
    {k_PathError k_BadName k_BadDay k_BadSection k_BadBook k_BadLegs k_BadThing k_SecondBook k_BadPlan k_BadText k_BadLine : Addr}
    (hg_PathError : PySem.W.nsIn K mainGlobals "PathError" = some (some (.ref k_PathError)))
    (hg_BadName : PySem.W.nsIn K mainGlobals "BadName" = some (some (.ref k_BadName)))
    (hg_BadDay : PySem.W.nsIn K mainGlobals "BadDay" = some (some (.ref k_BadDay)))
    (hg_BadSection : PySem.W.nsIn K mainGlobals "BadSection" = some (some (.ref k_BadSection)))
    (hg_BadBook : PySem.W.nsIn K mainGlobals "BadBook" = some (some (.ref k_BadBook)))
    (hg_BadLegs : PySem.W.nsIn K mainGlobals "BadLegs" = some (some (.ref k_BadLegs)))
    (hg_BadThing : PySem.W.nsIn K mainGlobals "BadThing" = some (some (.ref k_BadThing)))
    (hg_SecondBook : PySem.W.nsIn K mainGlobals "SecondBook" = some (some (.ref k_SecondBook)))
    (hg_BadPlan : PySem.W.nsIn K mainGlobals "BadPlan" = some (some (.ref k_BadPlan)))
    (hg_BadText : PySem.W.nsIn K mainGlobals "BadText" = some (some (.ref k_BadText)))
    (hg_BadLine : PySem.W.nsIn K mainGlobals "BadLine" = some (some (.ref k_BadLine)))
    (pe_BadName : PySem.W.excIn K k_BadName [.type "ValueError", .type "Exception", .type "BaseException", .type "object"] "ValueError.__new__" = true)
    (pt_BadName : PySem.W.typeIn K (.ref k_BadName) = some (.type "type"))
    (ps_BadName : PySem.W.mroIn K k_BadName (.ref k_BadName) = some true)
    (pm_BadName : PySem.W.mroIn K k_BadName (.type "BaseException") = some true)
    (pe_BadDay : PySem.W.excIn K k_BadDay [.type "ValueError", .type "Exception", .type "BaseException", .type "object"] "ValueError.__new__" = true)
    (pt_BadDay : PySem.W.typeIn K (.ref k_BadDay) = some (.type "type"))
    (ps_BadDay : PySem.W.mroIn K k_BadDay (.ref k_BadDay) = some true)
    (pm_BadDay : PySem.W.mroIn K k_BadDay (.type "BaseException") = some true)
    (pu_BadDay_PathError : PySem.W.subIn K (.ref k_BadDay) (.ref k_PathError) = some true)
    (pb_PathError : PySem.W.subIn K (.ref k_PathError) (.type "BaseException") = some true)
    (pd_PathError : PySem.W.hasDictIn K k_PathError = true)
    (pt_PathError : PySem.W.typeIn K (.ref k_PathError) = some (.type "type"))
    (pu_BadName_PathError : PySem.W.subIn K (.ref k_BadName) (.ref k_PathError) = some true)
    (pg_BadDay : PySem.W.findIn K (.ref k_BadDay) "__getattribute__" = some (some (.builtin "BaseException.__getattribute__")))
    (pa_BadDay : PySem.W.findIn K (.ref k_BadDay) "__getattr__" = some none)
    (pb_BadDay : PySem.W.subIn K (.ref k_BadDay) (.type "BaseException") = some true)
    (pd_BadDay : PySem.W.hasDictIn K k_BadDay = true)
    (pc_BadDay : PySem.W.findIn K (.ref k_BadDay) "__class__" = some (some (.builtin "object.__class__")))
    (pq_get : PySem.W.specialIn K (.builtin "object.__class__") "__get__" = some (some (.builtin "getset_descriptor.__get__")))
    (pq_tak : PySem.W.takesIn K (.builtin "object.__class__") = some true)
    (po_BadDay : PySem.W.mroIn K k_BadDay (.type "object") = some true)
    (pu_BadDay_SecondBook : PySem.W.subIn K (.ref k_BadDay) (.ref k_SecondBook) = some false)
    (pd_SecondBook : PySem.W.hasDictIn K k_SecondBook = true)
    (pt_SecondBook : PySem.W.typeIn K (.ref k_SecondBook) = some (.type "type"))
    (nq_BadDay_SecondBook : (Value.ref k_BadDay == Value.ref k_SecondBook) = false)
    (pu_BadDay_BadThing : PySem.W.subIn K (.ref k_BadDay) (.ref k_BadThing) = some false)
    (pd_BadThing : PySem.W.hasDictIn K k_BadThing = true)
    (pt_BadThing : PySem.W.typeIn K (.ref k_BadThing) = some (.type "type"))
    (nq_BadDay_BadThing : (Value.ref k_BadDay == Value.ref k_BadThing) = false)
    (pu_BadDay_BadText : PySem.W.subIn K (.ref k_BadDay) (.ref k_BadText) = some false)
    (pd_BadText : PySem.W.hasDictIn K k_BadText = true)
    (pt_BadText : PySem.W.typeIn K (.ref k_BadText) = some (.type "type"))
    (nq_BadDay_BadText : (Value.ref k_BadDay == Value.ref k_BadText) = false)
    (pu_BadDay_BadSection : PySem.W.subIn K (.ref k_BadDay) (.ref k_BadSection) = some false)
    (pd_BadSection : PySem.W.hasDictIn K k_BadSection = true)
    (pt_BadSection : PySem.W.typeIn K (.ref k_BadSection) = some (.type "type"))
    (nq_BadDay_BadSection : (Value.ref k_BadDay == Value.ref k_BadSection) = false)
    (pu_BadDay_BadPlan : PySem.W.subIn K (.ref k_BadDay) (.ref k_BadPlan) = some false)
    (pd_BadPlan : PySem.W.hasDictIn K k_BadPlan = true)
    (pt_BadPlan : PySem.W.typeIn K (.ref k_BadPlan) = some (.type "type"))
    (nq_BadDay_BadPlan : (Value.ref k_BadDay == Value.ref k_BadPlan) = false)
    (pu_BadDay_BadLine : PySem.W.subIn K (.ref k_BadDay) (.ref k_BadLine) = some false)
    (pd_BadLine : PySem.W.hasDictIn K k_BadLine = true)
    (pt_BadLine : PySem.W.typeIn K (.ref k_BadLine) = some (.type "type"))
    (nq_BadDay_BadLine : (Value.ref k_BadDay == Value.ref k_BadLine) = false)
    (pu_BadDay_BadLegs : PySem.W.subIn K (.ref k_BadDay) (.ref k_BadLegs) = some false)
    (pd_BadLegs : PySem.W.hasDictIn K k_BadLegs = true)
    (pt_BadLegs : PySem.W.typeIn K (.ref k_BadLegs) = some (.type "type"))
    (nq_BadDay_BadLegs : (Value.ref k_BadDay == Value.ref k_BadLegs) = false)
    (pu_BadDay_BadBook : PySem.W.subIn K (.ref k_BadDay) (.ref k_BadBook) = some false)
    (pd_BadBook : PySem.W.hasDictIn K k_BadBook = true)
    (pt_BadBook : PySem.W.typeIn K (.ref k_BadBook) = some (.type "type"))
    (nq_BadDay_BadBook : (Value.ref k_BadDay == Value.ref k_BadBook) = false)
    (pg_BadName : PySem.W.findIn K (.ref k_BadName) "__getattribute__" = some (some (.builtin "BaseException.__getattribute__")))
    (pa_BadName : PySem.W.findIn K (.ref k_BadName) "__getattr__" = some none)
    (pb_BadName : PySem.W.subIn K (.ref k_BadName) (.type "BaseException") = some true)
    (pd_BadName : PySem.W.hasDictIn K k_BadName = true)
    (pc_BadName : PySem.W.findIn K (.ref k_BadName) "__class__" = some (some (.builtin "object.__class__")))
    (po_BadName : PySem.W.mroIn K k_BadName (.type "object") = some true)
    (pu_BadName_SecondBook : PySem.W.subIn K (.ref k_BadName) (.ref k_SecondBook) = some false)
    (nq_BadName_SecondBook : (Value.ref k_BadName == Value.ref k_SecondBook) = false)
    (pu_BadName_BadThing : PySem.W.subIn K (.ref k_BadName) (.ref k_BadThing) = some false)
    (nq_BadName_BadThing : (Value.ref k_BadName == Value.ref k_BadThing) = false)
    (pu_BadName_BadText : PySem.W.subIn K (.ref k_BadName) (.ref k_BadText) = some false)
    (nq_BadName_BadText : (Value.ref k_BadName == Value.ref k_BadText) = false)
    (pu_BadName_BadSection : PySem.W.subIn K (.ref k_BadName) (.ref k_BadSection) = some false)
    (nq_BadName_BadSection : (Value.ref k_BadName == Value.ref k_BadSection) = false)
    (pu_BadName_BadPlan : PySem.W.subIn K (.ref k_BadName) (.ref k_BadPlan) = some false)
    (nq_BadName_BadPlan : (Value.ref k_BadName == Value.ref k_BadPlan) = false)
    (pu_BadName_BadLine : PySem.W.subIn K (.ref k_BadName) (.ref k_BadLine) = some false)
    (nq_BadName_BadLine : (Value.ref k_BadName == Value.ref k_BadLine) = false)
    (pu_BadName_BadLegs : PySem.W.subIn K (.ref k_BadName) (.ref k_BadLegs) = some false)
    (nq_BadName_BadLegs : (Value.ref k_BadName == Value.ref k_BadLegs) = false)
    (pu_BadName_BadBook : PySem.W.subIn K (.ref k_BadName) (.ref k_BadBook) = some false)
    (nq_BadName_BadBook : (Value.ref k_BadName == Value.ref k_BadBook) = false)
    (pu_BadDay_BadName : PySem.W.subIn K (.ref k_BadDay) (.ref k_BadName) = some false)
    (nq_BadDay_BadName : (Value.ref k_BadDay == Value.ref k_BadName) = false)
    (pu_BadName_BadName : PySem.W.subIn K (.ref k_BadName) (.ref k_BadName) = some true)
    (pu_BadDay_BadDay : PySem.W.subIn K (.ref k_BadDay) (.ref k_BadDay) = some true)
    (pu_BadName_BadDay : PySem.W.subIn K (.ref k_BadName) (.ref k_BadDay) = some false)
    (nq_BadName_BadDay : (Value.ref k_BadName == Value.ref k_BadDay) = false)
    : ∃ fd : FuncData, (∀ (s : Shared) (v : Value), BindsTo s fd ⟨[v], []⟩ [("_law_script", v)]) ∧ ∀ base : Heap, K.In base → base.Ns mainGlobals mg → FG l.prog w K mg base 5 fa fd ["_law_script"] (spF K 1 (F_law_92a k_BadName k_BadDay)) := by
  have e := hfa.symm.trans (PySem.W.mg_of KX G a21)
  cases e
  have z_isinstance := PySem.W.mg_none_of KX G b_isinstance
  have z_int := PySem.W.mg_none_of KX G b_int
  have z_bool := PySem.W.mg_none_of KX G b_bool
  have z_str := PySem.W.mg_none_of KX G b_str
  have z_len := PySem.W.mg_none_of KX G b_len
  have z_all := PySem.W.mg_none_of KX G b_all
  have z_range := PySem.W.mg_none_of KX G b_range
  have z_repr := PySem.W.mg_none_of KX G b_repr
  have z_list := PySem.W.mg_none_of KX G b_list
  have z_min := PySem.W.mg_none_of KX G b_min
  have gC_PathError := PySem.W.mg_of KX G hg_PathError
  have gC_BadName := PySem.W.mg_of KX G hg_BadName
  have gC_BadDay := PySem.W.mg_of KX G hg_BadDay
  have gC_BadSection := PySem.W.mg_of KX G hg_BadSection
  have gC_BadBook := PySem.W.mg_of KX G hg_BadBook
  have gC_BadLegs := PySem.W.mg_of KX G hg_BadLegs
  have gC_BadThing := PySem.W.mg_of KX G hg_BadThing
  have gC_SecondBook := PySem.W.mg_of KX G hg_SecondBook
  have gC_BadPlan := PySem.W.mg_of KX G hg_BadPlan
  have gC_BadText := PySem.W.mg_of KX G hg_BadText
  have gC_BadLine := PySem.W.mg_of KX G hg_BadLine
  have en_BadName : ExN K k_BadName := exN_mk pe_BadName pt_BadName ps_BadName pm_BadName
  have en_BadDay : ExN K k_BadDay := exN_mk pe_BadDay pt_BadDay ps_BadDay pm_BadDay
  have ex_BadDay_PathError : PySem.W.exmOne K (.ref k_BadDay) (.ref k_PathError) = some true := PySem.W.exm_ref pb_PathError pd_PathError pt_PathError pu_BadDay_PathError
  have ex_BadName_PathError : PySem.W.exmOne K (.ref k_BadName) (.ref k_PathError) = some true := PySem.W.exm_ref pb_PathError pd_PathError pt_PathError pu_BadName_PathError
  have xc_BadDay : ExcC K k_BadDay := excC_mk pg_BadDay pa_BadDay pb_BadDay pd_BadDay pc_BadDay pq_get pq_tak po_BadDay
  have kt_BadDay_SecondBook : PySem.W.kitOne K (.ref k_BadDay) (.ref k_SecondBook) = some false := kitO_own pd_SecondBook pt_SecondBook pu_BadDay_SecondBook (fun z => by rw [nq_BadDay_SecondBook] at z; cases z)
  have kt_BadDay_BadThing : PySem.W.kitOne K (.ref k_BadDay) (.ref k_BadThing) = some false := kitO_own pd_BadThing pt_BadThing pu_BadDay_BadThing (fun z => by rw [nq_BadDay_BadThing] at z; cases z)
  have kt_BadDay_BadText : PySem.W.kitOne K (.ref k_BadDay) (.ref k_BadText) = some false := kitO_own pd_BadText pt_BadText pu_BadDay_BadText (fun z => by rw [nq_BadDay_BadText] at z; cases z)
  have kt_BadDay_BadSection : PySem.W.kitOne K (.ref k_BadDay) (.ref k_BadSection) = some false := kitO_own pd_BadSection pt_BadSection pu_BadDay_BadSection (fun z => by rw [nq_BadDay_BadSection] at z; cases z)
  have kt_BadDay_BadPlan : PySem.W.kitOne K (.ref k_BadDay) (.ref k_BadPlan) = some false := kitO_own pd_BadPlan pt_BadPlan pu_BadDay_BadPlan (fun z => by rw [nq_BadDay_BadPlan] at z; cases z)
  have kt_BadDay_BadLine : PySem.W.kitOne K (.ref k_BadDay) (.ref k_BadLine) = some false := kitO_own pd_BadLine pt_BadLine pu_BadDay_BadLine (fun z => by rw [nq_BadDay_BadLine] at z; cases z)
  have kt_BadDay_BadLegs : PySem.W.kitOne K (.ref k_BadDay) (.ref k_BadLegs) = some false := kitO_own pd_BadLegs pt_BadLegs pu_BadDay_BadLegs (fun z => by rw [nq_BadDay_BadLegs] at z; cases z)
  have kt_BadDay_BadBook : PySem.W.kitOne K (.ref k_BadDay) (.ref k_BadBook) = some false := kitO_own pd_BadBook pt_BadBook pu_BadDay_BadBook (fun z => by rw [nq_BadDay_BadBook] at z; cases z)
  have xc_BadName : ExcC K k_BadName := excC_mk pg_BadName pa_BadName pb_BadName pd_BadName pc_BadName pq_get pq_tak po_BadName
  have kt_BadName_SecondBook : PySem.W.kitOne K (.ref k_BadName) (.ref k_SecondBook) = some false := kitO_own pd_SecondBook pt_SecondBook pu_BadName_SecondBook (fun z => by rw [nq_BadName_SecondBook] at z; cases z)
  have kt_BadName_BadThing : PySem.W.kitOne K (.ref k_BadName) (.ref k_BadThing) = some false := kitO_own pd_BadThing pt_BadThing pu_BadName_BadThing (fun z => by rw [nq_BadName_BadThing] at z; cases z)
  have kt_BadName_BadText : PySem.W.kitOne K (.ref k_BadName) (.ref k_BadText) = some false := kitO_own pd_BadText pt_BadText pu_BadName_BadText (fun z => by rw [nq_BadName_BadText] at z; cases z)
  have kt_BadName_BadSection : PySem.W.kitOne K (.ref k_BadName) (.ref k_BadSection) = some false := kitO_own pd_BadSection pt_BadSection pu_BadName_BadSection (fun z => by rw [nq_BadName_BadSection] at z; cases z)
  have kt_BadName_BadPlan : PySem.W.kitOne K (.ref k_BadName) (.ref k_BadPlan) = some false := kitO_own pd_BadPlan pt_BadPlan pu_BadName_BadPlan (fun z => by rw [nq_BadName_BadPlan] at z; cases z)
  have kt_BadName_BadLine : PySem.W.kitOne K (.ref k_BadName) (.ref k_BadLine) = some false := kitO_own pd_BadLine pt_BadLine pu_BadName_BadLine (fun z => by rw [nq_BadName_BadLine] at z; cases z)
  have kt_BadName_BadLegs : PySem.W.kitOne K (.ref k_BadName) (.ref k_BadLegs) = some false := kitO_own pd_BadLegs pt_BadLegs pu_BadName_BadLegs (fun z => by rw [nq_BadName_BadLegs] at z; cases z)
  have kt_BadName_BadBook : PySem.W.kitOne K (.ref k_BadName) (.ref k_BadBook) = some false := kitO_own pd_BadBook pt_BadBook pu_BadName_BadBook (fun z => by rw [nq_BadName_BadBook] at z; cases z)
  have kt_BadDay_BadName : PySem.W.kitOne K (.ref k_BadDay) (.ref k_BadName) = some false := kitO_own pd_BadName pt_BadName pu_BadDay_BadName (fun z => by rw [nq_BadDay_BadName] at z; cases z)
  have kt_BadName_BadName : PySem.W.kitOne K (.ref k_BadName) (.ref k_BadName) = some true := kitO_own pd_BadName pt_BadName pu_BadName_BadName (fun _ => rfl)
  have kt_BadDay_BadDay : PySem.W.kitOne K (.ref k_BadDay) (.ref k_BadDay) = some true := kitO_own pd_BadDay pt_BadDay pu_BadDay_BadDay (fun _ => rfl)
  have kt_BadName_BadDay : PySem.W.kitOne K (.ref k_BadName) (.ref k_BadDay) = some false := kitO_own pd_BadDay pt_BadDay pu_BadName_BadDay (fun z => by rw [nq_BadName_BadDay] at z; cases z)
  have g_MOST_LETTERS : Glb K mg "MOST_LETTERS" ((.int 8)) (.int 8) := ⟨⟨_, PySem.W.mg_of KX G ha_MOST_LETTERS, ⟨_, rfl⟩⟩, fun _ => .int _⟩
  have g_SMALL : Glb K mg "SMALL" ((.str "abcdefghijklmnopqrstuvwxyz")) (.str "abcdefghijklmnopqrstuvwxyz") := ⟨⟨_, PySem.W.mg_of KX G ha_SMALL, ⟨_, rfl⟩⟩, fun _ => .str _⟩
  have g_MOST_FIGURES : Glb K mg "MOST_FIGURES" ((.int 5)) (.int 5) := ⟨⟨_, PySem.W.mg_of KX G ha_MOST_FIGURES, ⟨_, rfl⟩⟩, fun _ => .int _⟩
  have g_FIGURES : Glb K mg "FIGURES" ((.str "0123456789")) (.str "0123456789") := ⟨⟨_, PySem.W.mg_of KX G ha_FIGURES, ⟨_, rfl⟩⟩, fun _ => .str _⟩
  have T0 := funV_mk (st := s_is_whole) l0 c0 k0
  have T1 := funV_mk (st := s_is_name) l1 c1 k1
  have T2 := funV_mk (st := s_need_name) l2 c2 k2
  have T3 := funV_mk (st := s_need_day) l3 c3 k3
  have T4 := funV_mk (st := s_number_in) l4 c4 k4
  have T5 := funV_mk (st := s_rows_of) l5 c5 k5
  have T6 := funV_mk (st := s__law_begin) l6 c6 k6
  have T7 := funV_mk (st := s__law_mixed) l7 c7 k7
  have T8 := funV_mk (st := s__law_next) l8 c8 k8
  have T9 := funV_mk (st := s__law_sign) l9 c9 k9
  have T10 := funV_mk (st := s__law_text) l10 c10 k10
  have T11 := funV_mk (st := s__law_figures) l11 c11 k11
  have T12 := funV_mk (st := s__law_is_name) l12 c12 k12
  have T13 := funV_mk (st := s__law_is_whole) l13 c13 k13
  have T14 := funV_mk (st := s__law_read) l14 c14 k14
  have T15 := funV_mk (st := s__law_said) l15 c15 k15
  have T16 := funV_mk (st := s__law_wholes_right) l16 c16 k16
  have T17 := funV_mk (st := s__law_same) l17 c17 k17
  have T18 := funV_mk (st := s__law_parted) l18 c18 k18
  have T19 := funV_mk (st := s__law_rows_right) l19 c19 k19
  have T20 := funV_mk (st := s__law_numbers_right) l20 c20 k20
  have T21 := funV_mk (st := s_law) l21 c21 k21
  refine ⟨PySem.W.fnOf "law" "law" (defArgs s_law) (defBody s_law) (defScope s_law) .none kV21 dc21 pm21 an21 cd21 ct21, fun s v => .of_eq rfl, fun base _ _ => ?_⟩
  have G_is_whole := fg_is_whole (P := l.prog) (w := w) (mg := mg) (base := base) T0 z_isinstance z_int z_bool
  have D_is_whole_1 := df_ofD G_is_whole (PySem.W.mg_of KX G a0) T0.kp ((funD_mk (dvs := [(.int 0), (.int 9999)]) (its := [(.int 0 tk0_0), (.int 9999 tk0_1)]) l0 c0 k0 d0 (.cons (show RelV (.int 0) _ from ⟨_, rfl⟩) (.cons (show RelV (.int 9999) _ from ⟨_, rfl⟩) .nil)) (by simp)).binds1 1 0 (by simp) rfl fun _ _ _ _ _ _ _ us its h1 h2 => match us, its, h1, h2 with | [u0], [w0, w1], _, _ => ⟨_, rfl, rfl⟩) (dfl_cons (fun _ => .int _) (dfl_cons (fun _ => .int _) dfl_nil))
  have D_is_whole_2 := df_ofD G_is_whole (PySem.W.mg_of KX G a0) T0.kp ((funD_mk (dvs := [(.int 0), (.int 9999)]) (its := [(.int 0 tk0_0), (.int 9999 tk0_1)]) l0 c0 k0 d0 (.cons (show RelV (.int 0) _ from ⟨_, rfl⟩) (.cons (show RelV (.int 9999) _ from ⟨_, rfl⟩) .nil)) (by simp)).binds1 2 1 (by simp) rfl fun _ _ _ _ _ _ _ us its h1 h2 => match us, its, h1, h2 with | [u0, u1], [w0, w1], _, _ => ⟨_, rfl, rfl⟩) (dfl_cons (fun _ => .int _) dfl_nil)
  have D_is_whole := df_ofD G_is_whole (PySem.W.mg_of KX G a0) T0.kp ((funD_mk (dvs := [(.int 0), (.int 9999)]) (its := [(.int 0 tk0_0), (.int 9999 tk0_1)]) l0 c0 k0 d0 (.cons (show RelV (.int 0) _ from ⟨_, rfl⟩) (.cons (show RelV (.int 9999) _ from ⟨_, rfl⟩) .nil)) (by simp)).binds1 3 2 (by simp) rfl fun _ _ _ _ _ _ _ us its h1 h2 => match us, its, h1, h2 with | [u0, u1, u2], [w0, w1], _, _ => ⟨_, rfl, rfl⟩) dfl_nil
  have G_is_name := fg_is_name (P := l.prog) (w := w) (mg := mg) (base := base) T1 z_isinstance z_str z_len z_all g_MOST_LETTERS g_SMALL
  have D_is_name := df_of G_is_name (PySem.W.mg_of KX G a1) T1.kp (T1.binds1 fun _ _ _ _ _ _ u0 => rfl)
  have G_need_name := fg_need_name (P := l.prog) (w := w) (mg := mg) (base := base) T2 (k_BadName := k_BadName) (k_BadDay := k_BadDay) D_is_name gC_BadName en_BadName
  have D_need_name := df_of G_need_name (PySem.W.mg_of KX G a2) T2.kp (T2.binds1 fun _ _ _ _ _ _ u0 => rfl)
  have G_need_day := fg_need_day (P := l.prog) (w := w) (mg := mg) (base := base) T3 (k_BadName := k_BadName) (k_BadDay := k_BadDay) D_is_whole_1 gC_BadDay en_BadDay
  have D_need_day := df_of G_need_day (PySem.W.mg_of KX G a3) T3.kp (T3.binds1 fun _ _ _ _ _ _ u0 => rfl)
  have G_number_in := fg_number_in (P := l.prog) (w := w) (mg := mg) (base := base) T4 z_len z_all z_int g_MOST_FIGURES g_FIGURES
  have D_number_in_1 := df_ofD G_number_in (PySem.W.mg_of KX G a4) T4.kp ((funD_mk (dvs := [(.int 9999)]) (its := [(.int 9999 tk4_0)]) l4 c4 k4 d4 (.cons (show RelV (.int 9999) _ from ⟨_, rfl⟩) .nil) (by simp)).binds1 1 0 (by simp) rfl fun _ _ _ _ _ _ _ us its h1 h2 => match us, its, h1, h2 with | [u0], [w0], _, _ => ⟨_, rfl, rfl⟩) (dfl_cons (fun _ => .int _) dfl_nil)
  have D_number_in := df_ofD G_number_in (PySem.W.mg_of KX G a4) T4.kp ((funD_mk (dvs := [(.int 9999)]) (its := [(.int 9999 tk4_0)]) l4 c4 k4 d4 (.cons (show RelV (.int 9999) _ from ⟨_, rfl⟩) .nil) (by simp)).binds1 2 1 (by simp) rfl fun _ _ _ _ _ _ _ us its h1 h2 => match us, its, h1, h2 with | [u0, u1], [w0], _, _ => ⟨_, rfl, rfl⟩) dfl_nil
  have G_rows_of := fg_rows_of (P := l.prog) (w := w) (mg := mg) (base := base) T5
  have D_rows_of := df_of G_rows_of (PySem.W.mg_of KX G a5) T5.kp (T5.binds1 fun _ _ _ _ _ _ u0 => rfl)
  have G__law_begin := fg__law_begin (P := l.prog) (w := w) (mg := mg) (base := base) T6
  have D__law_begin := df_of G__law_begin (PySem.W.mg_of KX G a6) T6.kp (T6.binds1 fun _ _ _ _ _ _ u0 => rfl)
  have G__law_mixed := fg__law_mixed (P := l.prog) (w := w) (mg := mg) (base := base) T7
  have D__law_mixed := df_of G__law_mixed (PySem.W.mg_of KX G a7) T7.kp (T7.binds2 fun _ _ _ _ _ _ u0 u1 => rfl)
  have G__law_next := fg__law_next (P := l.prog) (w := w) (mg := mg) (base := base) T8 D__law_mixed z_len
  have D__law_next := df_of G__law_next (PySem.W.mg_of KX G a8) T8.kp (T8.binds2 fun _ _ _ _ _ _ u0 u1 => rfl)
  have G__law_sign := fg__law_sign (P := l.prog) (w := w) (mg := mg) (base := base) T9 D__law_next z_len
  have D__law_sign := df_of G__law_sign (PySem.W.mg_of KX G a9) T9.kp (T9.binds1 fun _ _ _ _ _ _ u0 => rfl)
  have G__law_text := fg__law_text (P := l.prog) (w := w) (mg := mg) (base := base) T10 D__law_next D__law_sign z_range
  have D__law_text := df_of G__law_text (PySem.W.mg_of KX G a10) T10.kp (T10.binds1 fun _ _ _ _ _ _ u0 => rfl)
  have G__law_figures := fg__law_figures (P := l.prog) (w := w) (mg := mg) (base := base) T11 D__law_next D__law_sign z_range z_len
  have D__law_figures := df_of G__law_figures (PySem.W.mg_of KX G a11) T11.kp (T11.binds1 fun _ _ _ _ _ _ u0 => rfl)
  have G__law_is_name := fg__law_is_name (P := l.prog) (w := w) (mg := mg) (base := base) T12 z_isinstance z_str z_len
  have D__law_is_name := df_of G__law_is_name (PySem.W.mg_of KX G a12) T12.kp (T12.binds1 fun _ _ _ _ _ _ u0 => rfl)
  have G__law_is_whole := fg__law_is_whole (P := l.prog) (w := w) (mg := mg) (base := base) T13 z_isinstance z_int z_bool
  have D__law_is_whole := df_of G__law_is_whole (PySem.W.mg_of KX G a13) T13.kp (T13.binds3 fun _ _ _ _ _ _ u0 u1 u2 => rfl)
  have G__law_read := fg__law_read (P := l.prog) (w := w) (mg := mg) (base := base) T14 z_len
  have D__law_read := df_of G__law_read (PySem.W.mg_of KX G a14) T14.kp (T14.binds2 fun _ _ _ _ _ _ u0 u1 => rfl)
  have G__law_said := fg__law_said (P := l.prog) (w := w) (mg := mg) (base := base) T15 (k_BadName := k_BadName) (k_BadDay := k_BadDay) D_need_name D_need_day z_isinstance z_int gC_PathError gC_SecondBook gC_BadThing gC_BadText gC_BadSection gC_BadPlan gC_BadLine gC_BadLegs gC_BadBook gC_BadName gC_BadDay ex_BadDay_PathError ex_BadName_PathError xc_BadDay kt_BadDay_SecondBook kt_BadDay_BadThing kt_BadDay_BadText kt_BadDay_BadSection kt_BadDay_BadPlan kt_BadDay_BadLine kt_BadDay_BadLegs kt_BadDay_BadBook xc_BadName kt_BadName_SecondBook kt_BadName_BadThing kt_BadName_BadText kt_BadName_BadSection kt_BadName_BadPlan kt_BadName_BadLine kt_BadName_BadLegs kt_BadName_BadBook kt_BadDay_BadName kt_BadName_BadName kt_BadDay_BadDay kt_BadName_BadDay
  have D__law_said := df_of G__law_said (PySem.W.mg_of KX G a15) T15.kp (T15.binds2 fun _ _ _ _ _ _ u0 u1 => rfl)
  have G__law_wholes_right := fg__law_wholes_right (P := l.prog) (w := w) (mg := mg) (base := base) T16 (k_BadName := k_BadName) (k_BadDay := k_BadDay) D__law_next D_is_whole_1 D_is_whole_2 D_is_whole D__law_is_whole D__law_said z_repr z_int
  have D__law_wholes_right := df_of G__law_wholes_right (PySem.W.mg_of KX G a16) T16.kp (T16.binds1 fun _ _ _ _ _ _ u0 => rfl)
  have G__law_same := fg__law_same (P := l.prog) (w := w) (mg := mg) (base := base) T17 z_isinstance z_int z_bool
  have D__law_same := df_of G__law_same (PySem.W.mg_of KX G a17) T17.kp (T17.binds2 fun _ _ _ _ _ _ u0 u1 => rfl)
  have G__law_parted := fg__law_parted (P := l.prog) (w := w) (mg := mg) (base := base) T18
  have D__law_parted := df_of G__law_parted (PySem.W.mg_of KX G a18) T18.kp (T18.binds1 fun _ _ _ _ _ _ u0 => rfl)
  have G__law_rows_right := fg__law_rows_right (P := l.prog) (w := w) (mg := mg) (base := base) T19 D__law_sign D__law_next D_rows_of D__law_parted z_range z_isinstance z_list z_len
  have D__law_rows_right := df_of G__law_rows_right (PySem.W.mg_of KX G a19) T19.kp (T19.binds1 fun _ _ _ _ _ _ u0 => rfl)
  have G__law_numbers_right := fg__law_numbers_right (P := l.prog) (w := w) (mg := mg) (base := base) T20 D__law_next D__law_read D_number_in D__law_same D_number_in_1 z_str
  have D__law_numbers_right := df_of G__law_numbers_right (PySem.W.mg_of KX G a20) T20.kp (T20.binds3 fun _ _ _ _ _ _ u0 u1 u2 => rfl)
  exact fg_law T21 (k_BadName := k_BadName) (k_BadDay := k_BadDay) D__law_begin D__law_figures D__law_text D__law_next D_is_name D__law_is_name D__law_said D__law_numbers_right D__law_wholes_right D__law_rows_right D_rows_of z_range z_min z_len z_isinstance z_bool z_int
end GK01
namespace FL
open PySem PySem.Spec PyProof.Rows L2 L3
theorem mixed_ok {c k : Int} {μ : List SV} {Q X} (hk : 0 ≤ k ∧ k ≤ 2 ^ 50) (h : ∀ m : Int, 0 ≤ m → Q (.dat (.int m)) μ) : Wf F__law_mixed [.dat (.int c), .dat (.int k)] μ Q X := by
  unfold F__law_mixed fb__law_mixed
  simp [wf_run]
  refine ⟨.inr ⟨by omega, by omega⟩, ⟨by omega, by omega⟩, .inl ⟨by omega, by omega⟩, .inr ⟨by omega, by omega⟩, h _ ?_⟩
  omega
noncomputable def Dr (B : Int) (x : SV) : Prop := ∃ (cs : List Int) (a l u : Int), x = .node (.dK drawKs) [.dat (.lst (cs.map D.int)), .dat (.int a), .dat (.int l), .dat (.int u)] ∧ 0 < cs.length ∧ cs.length ≤ 1000 ∧ 0 ≤ a ∧ a ≤ B ∧ 0 ≤ l ∧ 0 ≤ u ∧ u ≤ B
theorem next_ok {B m : Int} {x : SV} {Q X} (hx : Dr B x) (hB : B < 2 ^ 49) (hm : 0 < m ∧ m < 2 ^ 29) (h : ∀ (r : Int) (x' : SV), 0 ≤ r → r < m → Dr (B + 1) x' → Q (.dat (.int r)) [x']) : Wf F__law_next [.cell 0, .dat (.int m)] [x] Q X := by
  obtain ⟨cs, a, l, u, rfl, h1, h2, h3, h4, h5, h6, h7⟩ := hx
  unfold F__law_next fb__law_next
  simp [wf_run]
  have fin : ∀ z : Int, Wf F__law_mixed [.dat (.int z), .dat (.int (a + 1))] [.node (.dK drawKs) [.dat (.lst (cs.map D.int)), .dat (.int (a + 1)), .dat (.int l), .dat (.int (u + 1))]] (fun x μ' => ∃ m, 0 ≤ m ∧ x = .dat (.int m) ∧ μ' = [.node (.dK drawKs) [.dat (.lst (cs.map D.int)), .dat (.int (a + 1)), .dat (.int l), .dat (.int (u + 1))]]) X := fun z => mixed_ok ⟨by omega, by omega⟩ fun m hm => ⟨m, hm, rfl, rfl⟩
  have dr : ∀ a' l' u' : Int, 0 ≤ a' → a' ≤ B + 1 → 0 ≤ l' → 0 ≤ u' → u' ≤ B + 1 → Dr (B + 1) (.node (.dK drawKs) [.dat (.lst (cs.map D.int)), .dat (.int a'), .dat (.int l'), .dat (.int u')]) := fun a' l' u' e1 e2 e3 e4 e5 => ⟨cs, a', l', u', rfl, h1, h2, e1, e2, e3, e4, e5⟩
  have last : ∀ z : Int, (∀ (x : SV) (μ' : List SV), (∃ m, 0 ≤ m ∧ x = .dat (.int m) ∧ μ' = [.node (.dK drawKs) [.dat (.lst (cs.map D.int)), .dat (.int (a + 1)), .dat (.int l), .dat (.int (u + 1))]]) → True) := fun _ _ _ _ => trivial
  refine ⟨fun hl => ⟨hm.1, ⟨hm.1, by omega⟩, h _ _ (Int.emod_nonneg _ (by omega)) (Int.emod_lt_of_pos _ hm.1) (dr _ _ _ (by omega) (by omega) (Int.ediv_nonneg h5 (by omega)) h6 (by omega))⟩, fun hl => ⟨h1, ob_at (Int.emod_nonneg _ (by omega)) (Int.emod_lt_of_pos _ (by omega)) fun z hz => ?_⟩⟩
  simp
  refine ⟨fun hz1 => ⟨fun ha => ⟨⟨hm.1, by omega⟩, hm.1, h _ _ (Int.emod_nonneg _ (by omega)) (Int.emod_lt_of_pos _ hm.1) (dr _ _ _ (by omega) (by omega) (Int.ediv_nonneg (by omega) (by omega)) h6 (by omega))⟩, fun ha => ?_⟩, fun hz1 => ?_⟩
  all_goals
    refine wf_mono (fin z) (fun x μ' hx => ?_) (fun _ _ hx => hx)
    obtain ⟨m1, hm1, rfl, rfl⟩ := hx
    simp
    refine mixed_ok ⟨by omega, by omega⟩ fun m2 hm2 => ?_
    simp
    exact ⟨hm.1, h _ _ (Int.emod_nonneg _ (by omega)) (Int.emod_lt_of_pos _ hm.1) (dr _ _ _ (by omega) (by omega) h5 (by omega) (by omega))⟩
noncomputable def enc (t : Int × Int × Int) : D := .tup [.int t.1, .int t.2.1, .int t.2.2]
noncomputable def gone (R : List (Int × Int × Int)) (f : Int × Int × Int → Int) (a b : Int) (i : Nat) : Int := ((List.range i).map fun (j : Nat) => ((R[(if a < b then a + (j : Int) else a - 1 - (j : Int)).toNat]?).map f).getD 0).sum
noncomputable def len (t : Int × Int × Int) : Int := t.1
end FL
namespace FL
open PySem PySem.Spec PyProof.Rows L2 L3
end FL
namespace FL
open PySem PySem.Spec PyProof.Rows L2 L3
noncomputable def Wd (x : Str) : Prop := x.length ≤ 8 ∧ PyData.canLay0 (.str x) = true
noncomputable def RowOk (t : Int × Int × Int) : Prop := (0 ≤ t.1 ∧ t.1 ≤ 1000) ∧ (0 ≤ t.2.1 ∧ t.2.1 ≤ 1000) ∧ (0 ≤ t.2.2 ∧ t.2.2 ≤ 1000)
structure Sec (d : D) (n : Str) (ms : List Str) (Rw : List (Int × Int × Int)) : Prop where
  eq : d = .tup [.str n, .tup (ms.map D.str), .tup (Rw.map enc)]
  len : ms.length = Rw.length + 1
  few : Rw.length ≤ 7
  name : Wd n
  marks : ∀ m ∈ ms, Wd m
  rows : ∀ t ∈ Rw, RowOk t
end FL
namespace FL
open PySem PySem.Spec PyProof.Rows L2 L3
end FL
namespace FL
open PySem PySem.Spec PyProof.Rows L2 L3
theorem begin_ok {ns : List Int} {μ : List SV} {Q X} (hn : ns.length ≤ 63) (h : ∀ cs : List Int, 0 < cs.length → cs.length ≤ 1000 → Q (.node (.dK drawKs) [.dat (.lst (cs.map D.int)), .dat (.int 0), .dat (.int 0), .dat (.int 0)]) μ) : Wf F__law_begin [.dat (.kl (ns.map D.int))] μ Q X := by
  unfold F__law_begin fb__law_begin
  simp [wf_run, show ¬ (Str.ofString "cells" = Str.ofString "at") by decide, show ¬ (Str.ofString "cells" = Str.ofString "left") by decide, show ¬ (Str.ofString "cells" = Str.ofString "used") by decide, show ¬ (Str.ofString "at" = Str.ofString "left") by decide, show ¬ (Str.ofString "at" = Str.ofString "used") by decide, show ¬ (Str.ofString "left" = Str.ofString "used") by decide]
  refine ⟨by omega, ?_⟩
  have := h (ns ++ [0]) (by simp) (by simp; omega)
  simpa using this
end FL
namespace FL
open PySem PySem.Spec PyProof.Rows L2 L3
theorem Dr.up {B C : Int} {x : SV} (h : Dr B x) (hc : B ≤ C) : Dr C x := by
  obtain ⟨cs, a, l, u, e, h1, h2, h3, h4, h5, h6, h7⟩ := h
  exact ⟨cs, a, l, u, e, h1, h2, h3, by omega, h5, h6, by omega⟩
theorem lay_iff {x : Str} : PyData.canLay0 (.str x) = true ↔ ∀ c ∈ x.cps.toList, c < 0x110000 := by
  simp only [PyData.canLay0, PyData.strOk, Array.all_eq_true, decide_eq_true_eq]
  constructor
  · intro h c hc
    obtain ⟨i, hi, rfl⟩ := List.mem_iff_getElem.mp hc
    simpa using h i (by simpa using hi)
  · intro h i hi
    exact h _ (by simp)
theorem glued_mem (g : Str) : ∀ (rest : List Str) (acc : Array Nat) (c : Nat), c ∈ (rest.foldl (fun acc p => acc ++ g.cps ++ p.cps) acc).toList → c ∈ acc.toList ∨ c ∈ g.cps.toList ∨ ∃ p ∈ rest, c ∈ p.cps.toList
  | [], acc, c, h => .inl h
  | p :: rest, acc, c, h => by
    rcases glued_mem g rest _ c h with h | h | ⟨q, hq, h⟩
    · simp only [Array.toList_append, List.mem_append] at h
      rcases h with (h | h) | h
      · exact .inl h
      · exact .inr (.inl h)
      · exact .inr (.inr ⟨p, by simp, h⟩)
    · exact .inr (.inl h)
    · exact .inr (.inr ⟨q, by simp [hq], h⟩)
theorem join_len {ys : List Str} (h : ∀ y ∈ ys, y.length = 1) : (Txt.join (Str.ofString "") ys).length = ys.length := by
  show (Builtin.Str.glued (Str.ofString "") ys).length = _
  rw [size_glued]
  have z : (Str.ofString "").length = 0 := by decide
  rw [z, Nat.mul_zero, Nat.add_zero]
  induction ys with
  | nil => rfl
  | cons y ys ih =>
    rw [List.map_cons, List.sum_cons, ih fun x hx => h x (by simp [hx]), h y (by simp), List.length_cons]; omega
noncomputable abbrev letters : Str := "abcdefghijklmnopqrstuvwxyz"
theorem letters_ok : letters.cps.toList.length = 26 ∧ (∀ c ∈ letters.cps.toList, c < 128) ∧ letters.length ≤ 1000000 := by decide +kernel
theorem lay1 {c : Nat} (h : c < 128) : PyData.canLay0 (.str ⟨#[c]⟩) = true := by
  rw [lay_iff]; intro d hd; simp at hd; omega
noncomputable def two (k : Nat) : Str := ⟨#[97 + k / 26, 97 + k % 26]⟩
end FL
namespace FL
open PySem PySem.Spec PyProof.Rows L2 L3
noncomputable abbrev sL (ws : List Str) : List SV := ws.map fun w => SV.dat (.str w)
end FL
namespace FL
open PySem PySem.Spec PyProof.Rows L2 L3
theorem eq_nil {rs : List Str} (h : ∀ w ∈ rs, Wd w) : eqD (.lst (rs.map D.str)) (.lst []) = some (decide (rs = [])) := by
  rw [eqD_sm (a := .lst (rs.map D.str)) (b := .lst []) (strs_sm fun y hy => (h y hy).2) (by simp [D.sm, smL]) (by have := strs_dp (ys := rs); simp [D.dp]; omega) (by simp [D.dp, dpL])]
  cases rs <;> simp [L3.eqT, pyOf, pysOf, PyData.eqv, PyData.eqvAll]
end FL
namespace FL
open PySem PySem.Spec PyProof.Rows L2 L3
end FL
namespace FL
open PySem PySem.Spec PyProof.Rows L2 L3
noncomputable def Nm (w : Str) : Prop := (1 ≤ w.length ∧ w.length ≤ 8) ∧ ∀ c ∈ w.cps.toList, 97 ≤ c ∧ c ≤ 122
end FL
namespace FL
open PySem PySem.Spec PyProof.Rows L2 L3
@[simp] theorem s_slS {ra : R} {S : Sto} {lo hi : Option Int} {z : Str} {kk : R → Sto → Prop} : Gb (slK ra S lo hi (.dat (.str z))) kk = (z.length ≤ 1000000 ∧ kk (.d (.str (L2.cutS z lo hi))) S) := by
  show Gb (if z.length ≤ 1000000 then some (R.d (.str (L2.cutS z lo hi)), S) else none) kk = _
  simp
theorem letters_lo : ∀ c ∈ letters.cps.toList, 97 ≤ c ∧ c ≤ 122 := by decide +kernel
end FL
namespace FL
open PySem PySem.Spec PyProof.Rows L2 L3
end FL
namespace FL
open PySem PySem.Spec PyProof.Rows L2 L3
structure Bd (d : D) (w p : Nat) : Prop where
  sm : d.sm
  wt : d.wt ≤ w
  dp : d.dp ≤ p
theorem bd_bl {b : Bool} {w p : Nat} : Bd (.bl b) w p := ⟨by simp [D.sm], by simp [D.wt], by simp [D.dp]⟩
theorem Bd.eq {a b : D} {w w' : Nat} (h : Bd a w 64) (h' : Bd b w' 64) : eqD a b = some (L3.eqT a b) := eqD_sm h.sm h'.sm h.dp h'.dp
structure Sc where
  n : Str
  ms : List Str
  rw : List (Int × Int × Int)
structure Sc.Ok (s : Sc) : Prop where
  len : s.ms.length = s.rw.length + 1
  few : s.rw.length ≤ 7
  two : 1 ≤ s.rw.length
  name : Wd s.n
  marks : ∀ m ∈ s.ms, Wd m
  rows : ∀ t ∈ s.rw, RowOk t
end FL
namespace FL
open PySem PySem.Spec PyProof.Rows L2 L3
end FL
namespace FL
noncomputable abbrev Pr := Int × Int
noncomputable def Cov (l : List Pr) (x : Int) : Prop := ∃ p ∈ l, p.1 ≤ x ∧ x ≤ p.2
structure Apart (l : List Pr) : Prop where
  wide : ∀ p ∈ l, p.1 ≤ p.2
  gaps : l.Pairwise fun p q => p.2 + 1 < q.1
structure Mg (lo hi : Int) (done : List Pr) (f : List Pr) : Prop where
  ap : Apart f
  cov : ∀ x, Cov f x ↔ (lo ≤ x ∧ x ≤ hi) ∧ Cov done x
  low : ∀ p ∈ f, p.1 = lo ∨ ∃ c ∈ done, p.1 = c.1
structure Du (lo e : Int) (cs : List Pr) (f : List Pr) : Prop where
  ap : Apart f
  cov : ∀ x, Cov f x ↔ (lo ≤ x ∧ x ≤ e) ∧ Cov cs x
end FL
namespace FL
open PySem PySem.Spec PyProof.Rows L2 L3
noncomputable abbrev Cl := Str × Int × Int
noncomputable def clD (c : Cl) : D := .tup [.str "closed", .str c.1, .int c.2.1, .int c.2.2]
noncomputable def ClOk (c : Cl) : Prop := Nm c.1 ∧ 0 ≤ c.2.1 ∧ c.2.1 ≤ c.2.2 ∧ c.2.2 ≤ 9999
end FL
namespace FL
open PySem PySem.Spec PyProof.Rows L2 L3
inductive Th where
  | cl (c : Cl)
  | bk (n : Int) (b : D)
  | wk (n : Int) (w : Str) (l : D)
noncomputable def thD : Th → D
  | .cl c => clD c
  | .bk n b => .tup [.str "book", .int n, b]
  | .wk n w l => .tup [.str "walk", .int n, .str w, l]
noncomputable def pyG (d : D) : PyData := d.py.getD .none
noncomputable def Th.Alike : Th → Th → Prop
  | .bk _ b, .bk _ b' => PySem.W.alike (pyG b) (pyG b') = true
  | .wk _ _ b, .wk _ _ b' => PySem.W.alike (pyG b) (pyG b') = true
  | _, _ => True
noncomputable def ThLe (t u : Th) : Prop := (∀ c d, t = .cl c → u = .cl d → c.1 = d.1 → c.2.1 ≤ d.2.1) ∧ ∀ n b m b', t = .bk n b → u = .bk m b' → n ≤ m
noncomputable def LeD (t u : Th) : Prop := PySem.W.dataLe false (pyK F_rank_of) (thD t) (thD u) = true
end FL
namespace FL
open PySem PySem.Spec PyProof.Rows L2 L3
theorem wh_ok {k a b : Int} {μ : List SV} {Q X} (h : Q (.dat (.bl (decide (a ≤ k ∧ k ≤ b)))) μ) : Wf F_is_whole [.dat (.int k), .dat (.int a), .dat (.int b)] μ Q X := by
  have e1 : isiD "int" (.int k) = some (.bl true) := rfl
  have e2 : isiD "bool" (.int k) = some (.bl false) := rfl
  unfold F_is_whole fb_is_whole
  simp [wf_run, e1, e2]
  refine ⟨fun h1 => ?_, fun h1 => ?_⟩
  · simpa [h1] using h
  · have : ¬ a ≤ k := by omega
    simpa [this] using h
noncomputable def cls (R : List Th) (w : Str) : List Pr := R.filterMap fun t => match t with
  | .cl c => if c.1 = w then some c.2 else none
  | _ => none
@[simp] theorem cut_2 {α : Type} {xs : List α} : L3.cutD xs (some 2) none = xs.drop 2 := by rw [show (2 : Int) = ((2 : Nat) : Int) from rfl, cut_from]
end FL
namespace FL
open PySem PySem.Spec PyProof.Rows L2 L3
noncomputable def lo2 (a b : Str) : Str := if strLt b a = true then b else a
noncomputable def hi2 (a b : Str) : Str := if strLt a b = true then b else a
noncomputable def endP (ms : List Str) (i : Nat) : Str × Str := (lo2 (ms[i]?.getD "") (ms[i + 1]?.getD ""), hi2 (ms[i]?.getD "") (ms[i + 1]?.getD ""))
structure Sc.Good (s : Sc) : Prop where
  name : Nm s.n
  marks : ∀ m ∈ s.ms, Nm m
  len : s.ms.length = s.rw.length + 1
  few : s.rw.length ≤ 7
  two : 1 ≤ s.rw.length
  rows : ∀ t ∈ s.rw, (1 ≤ t.1 ∧ t.1 ≤ 999) ∧ (0 ≤ t.2.1 ∧ t.2.1 ≤ 999) ∧ (0 ≤ t.2.2 ∧ t.2.2 ≤ 999)
  near : ∀ i, i < s.rw.length → s.ms[i]?.getD "" ≠ s.ms[i + 1]?.getD ""
  ways : ((List.range s.rw.length).map (endP s.ms)).Nodup
end FL
namespace FL
open PySem PySem.Spec PyProof.Rows L2 L3
end FL
namespace FL
structure Pts (pts : List Int) (lo hi : Int) : Prop where
  str : pts.Pairwise fun a b => a < b
  inn : ∀ a ∈ pts, lo ≤ a ∧ a ≤ hi
end FL
namespace FL
open PySem PySem.Spec PyProof.Rows L2 L3
end FL
namespace FL
open PySem PySem.Spec PyProof.Rows L2 L3
theorem forF_nil {tg : Tg} {f : FS} {S : Sto} {P : SO → Prop} (h : P (.nx S)) : Ws (forF tg f []) S P := ⟨_, rfl, h⟩
theorem forF_cons {tg : Tg} {f : FS} {d : D} {ds : List D} {S : Sto} {P : SO → Prop} (h : Ob (tgS tg d S.ρ) fun ρ => Ws f ⟨ρ, S.μ⟩ fun o => match o with
    | .nx S1 => Ws (forF tg f ds) S1 P
    | .ct S1 => Ws (forF tg f ds) S1 P
    | .bk S1 => P (.nx S1)
    | o => P o) : Ws (forF tg f (d :: ds)) S P := by
  obtain ⟨ρ, e1, o, e2, q⟩ := h
  have e2 : f { S with ρ := ρ } = some o := e2
  cases o with
  | nx S1 =>
    obtain ⟨o, eo, po⟩ := q
    exact ⟨o, by unfold forF; simp only [e1, e2]; exact eo, po⟩
  | ct S1 =>
    obtain ⟨o, eo, po⟩ := q
    exact ⟨o, by unfold forF; simp only [e1, e2]; exact eo, po⟩
  | bk S1 => exact ⟨_, by unfold forF; simp only [e1, e2], q⟩
  | rt x μ => exact ⟨_, by unfold forF; simp only [e1, e2], q⟩
  | exc e S1 => exact ⟨_, by unfold forF; simp only [e1, e2], q⟩
structure BkG (ss : List Sc) (hs : List Str) (bs : List (Str × Str)) : Prop where
  few : 1 ≤ ss.length ∧ ss.length ≤ 8
  good : ∀ s ∈ ss, s.Good
  names : (ss.map Sc.n).Nodup
  halts : hs.length ≤ 20
  hin : ∀ h ∈ hs, Nm h ∧ ∃ s ∈ ss, h ∈ s.ms
  hlt : hs.Pairwise fun a b => strLt a b = true
  one : bs.length ≤ 1
  bin : ∀ b ∈ bs, b.1 ∈ ss.map Sc.n ∧ b.2 ∈ ss.map Sc.n ∧ b.1 ≠ b.2
end FL
namespace FL
open PySem PySem.Spec PyProof.Rows L2 L3
structure Good (d : D) : Prop where
  bd : Bd d 100000 40
  pl : d.pl
  py : d.py = some (pyG d)
  dp : (pyG d).depth ≤ 50
structure BkOk (b : D) : Prop extends Good b where
  need : ∀ {μ : List SV} {Q X}, Q (.dat .non) μ → Wf F_need_book [.dat b] μ Q X
structure WkOk (l : D) : Prop extends Good l where
  need : ∀ {μ : List SV} {Q X}, Q (.dat .non) μ → Wf F_need_legs [.dat l] μ Q X
noncomputable def Th.Ok : Th → Prop
  | .cl c => ClOk c
  | .bk n b => (0 ≤ n ∧ n ≤ 9999) ∧ BkOk b
  | .wk n w l => (0 ≤ n ∧ n ≤ 9999) ∧ Nm w ∧ WkOk l
structure Row (R : List Th) : Prop where
  ok : ∀ t ∈ R, t.Ok
  srt : R.Pairwise ThLe
  le : R.Pairwise LeD
  alk : ∀ t ∈ R, ∀ u ∈ R, t.Alike u
end FL
namespace FL
open PySem PySem.Spec PyProof.Rows L2 L3
end FL
namespace FL
open PySem PySem.Spec PyProof.Rows L2 L3
end FL
namespace GK19
open PySem PySem.Spec PyProof.Rows L2 L3
end GK19
namespace FL
open PySem PySem.Spec PyProof.Rows L2 L3
noncomputable def waysOf (ms : List Str) : List (Str × Str) := (List.range (ms.length - 1)).map (endP ms)
structure MsOk (pool : List Str) (ms : List Str) : Prop where
  inn : ∀ m ∈ ms, m ∈ pool
  ways : (waysOf ms).Nodup
  near : ∀ j, j + 1 < ms.length → ms[j]?.getD "" ≠ ms[j + 1]?.getD ""
end FL
namespace FL
open PySem PySem.Spec PyProof.Rows L2 L3
end FL
namespace FL
open PySem PySem.Spec PyProof.Rows L2 L3
end FL
namespace FL
open PySem PySem.Spec PyProof.Rows L2 L3
end FL
namespace FL
open PySem PySem.Spec PyProof.Rows L2 L3
mutual
noncomputable def D.ok3 : D → Prop
  | .non => True
  | .bl _ => True
  | .int i => i.natAbs < 10 ^ 36
  | .str x => (∀ c ∈ x.cps.toList, c < 128) ∧ x.length ≤ 10
  | .lst xs => ok3L xs
  | .tup xs => ok3L xs
  | .dK ks xs => ks = [] ∧ xs = []
  | _ => False
noncomputable def ok3L : List D → Prop
  | [] => True
  | d :: ds => D.ok3 d ∧ ok3L ds
end
mutual
noncomputable def D.w3 : D → Nat
  | .int _ => 200
  | .str x => x.length
  | .lst xs => w3L xs
  | .tup xs => w3L xs
  | _ => 0
noncomputable def w3L : List D → Nat
  | [] => 0
  | d :: ds => D.w3 d + 1 + w3L ds
end
mutual
noncomputable def D.d3 : D → Nat
  | .lst xs => d3L xs + 1
  | .tup xs => d3L xs + 1
  | .dK _ _ => 1
  | _ => 0
noncomputable def d3L : List D → Nat
  | [] => 0
  | d :: ds => max (D.d3 d) (d3L ds)
end
structure Od (d : D) (w n : Nat) : Prop where
  ok : D.ok3 d
  wt : D.w3 d ≤ w
  dp : D.d3 d ≤ n
structure SmE (d : D) (p : PyData) : Prop where
  py : d.pyE = some p
  sh : p.showable = true
  lv : p.leavesShort 200 = true
  wt : p.weight ≤ D.w3 d
  dp : p.depth ≤ D.d3 d
structure SmEs (ds : List D) (ps : List PyData) : Prop where
  py : pysE ds = some ps
  sh : PyData.showableAll ps = true
  lv : PyData.leavesShortAll 200 ps = true
  wt : PyData.weightAll ps ≤ w3L ds
  dp : PyData.depthAll ps ≤ d3L ds
theorem log2_lt3 {n : Nat} (h : n < 10 ^ 36) : n.log2 < 150 := by
  by_cases h0 : n = 0
  · subst h0; decide
  · exact (Nat.log2_lt h0).mpr (Nat.lt_of_lt_of_le h (by decide))
mutual
theorem sm3 : ∀ {d : D}, D.ok3 d → ∃ p, SmE d p
  | .non, _ => ⟨.none, by simp [D.pyE], by simp [PyData.showable], by simp [PyData.leavesShort], by simp [PyData.weight], by simp [PyData.depth]⟩
  | .bl b, _ => ⟨.bool b, by simp [D.pyE], by simp [PyData.showable], by simp [PyData.leavesShort], by simp [PyData.weight], by simp [PyData.depth]⟩
  | .int i, h => by
    have h : i.natAbs < 10 ^ 36 := h
    have hl := log2_lt3 h
    refine ⟨.int i, by simp [D.pyE], ?_, ?_, ?_, by simp [PyData.depth]⟩
    · simp only [PyData.showable, decide_eq_true_eq]; omega
    · simp only [PyData.leavesShort, decide_eq_true_eq]
      have e := int_text_length_le10 (k := 36) (by decide) h
      show (Str.ofString (toString i)).length ≤ 200
      rw [PySem.ofString_length]; omega
    · simp only [PyData.weight, D.w3]; split <;> omega
  | .str x, h => by
    have h : (∀ c ∈ x.cps.toList, c < 128) ∧ x.length ≤ 10 := h
    refine ⟨.str x, by simp [D.pyE], by simp [PyData.showable], ?_, ?_, by simp [PyData.depth]⟩
    · simp only [PyData.leavesShort, List.all_eq_true, decide_eq_true_eq]
      intro c hc
      have := h.1 c hc
      omega
    · simp only [PyData.weight, D.w3]; exact Nat.le_refl _
  | .lst xs, h => by
    obtain ⟨ps, q⟩ := sm3L (show ok3L xs from h)
    refine ⟨.list ps, ?_, ?_, ?_, ?_, ?_⟩
    · unfold D.pyE; rw [q.py]; rfl
    · simp only [PyData.showable]; exact q.sh
    · simp only [PyData.leavesShort]; exact q.lv
    · simp only [PyData.weight, D.w3]; exact q.wt
    · simp only [PyData.depth, D.d3]; have := q.dp; omega
  | .tup xs, h => by
    obtain ⟨ps, q⟩ := sm3L (show ok3L xs from h)
    refine ⟨.tuple ps, ?_, ?_, ?_, ?_, ?_⟩
    · unfold D.pyE; rw [q.py]; rfl
    · simp only [PyData.showable]; exact q.sh
    · simp only [PyData.leavesShort]; exact q.lv
    · simp only [PyData.weight, D.w3]; exact q.wt
    · simp only [PyData.depth, D.d3]; have := q.dp; omega
  | .dK ks xs, h => by
    have h : ks = [] ∧ xs = [] := h
    obtain ⟨rfl, rfl⟩ := h
    exact ⟨.dict [], by unfold D.pyE; rfl, by simp [PyData.showable, PyData.showableKv], by simp [PyData.leavesShort, PyData.leavesShortKv], by simp [PyData.weight, PyData.weightKv], by simp [PyData.depth, PyData.depthKv, D.d3]⟩
  | .kl _, h => h.elim
  | .kt _, h => h.elim
  | .dT _ _, h => h.elim
  | .wK _ _, h => h.elim
  | .wT _ _, h => h.elim
  | .fn _, h => h.elim
  | .exc _ _ _, h => h.elim
theorem sm3L : ∀ {ds : List D}, ok3L ds → ∃ ps, SmEs ds ps
  | [], _ => ⟨[], by unfold pysE; rfl, by simp [PyData.showableAll], by simp [PyData.leavesShortAll], by simp [PyData.weightAll], by simp [PyData.depthAll]⟩
  | d :: ds, h => by
    have h : D.ok3 d ∧ ok3L ds := h
    obtain ⟨p, q⟩ := sm3 h.1
    obtain ⟨ps, r⟩ := sm3L h.2
    refine ⟨p :: ps, ?_, ?_, ?_, ?_, ?_⟩
    · rw [pysE, q.py, r.py]; rfl
    · simp only [PyData.showableAll, q.sh, r.sh, Bool.and_self]
    · simp only [PyData.leavesShortAll, q.lv, r.lv, Bool.and_self]
    · simp only [PyData.weightAll, w3L]; have := q.wt; have := r.wt; omega
    · simp only [PyData.depthAll, d3L]; have := q.dp; have := r.dp; omega
end
noncomputable def shE (d : D) : Str := ((d.pyE).getD .none).shown
theorem Od.repr {d : D} (h : Od d 70000 60) : reprE [d] = some (.str (shE d)) := by
  obtain ⟨p, q⟩ := sm3 h.ok
  have w := h.wt
  have n := h.dp
  have l := PyData.shown_le 200 (by decide) p q.lv
  have qw := q.wt
  have qd := q.dp
  have e1 : shE d = p.shown := by unfold shE; rw [q.py]; rfl
  rw [e1]
  simp only [reprE, q.py]
  rw [if_pos ⟨q.sh, by omega, by omega⟩]
end FL
namespace FL
open PySem PySem.Spec PyProof.Rows L2 L3
noncomputable def isW (lo hi : Int) : D → Bool
  | .int i => decide (lo ≤ i ∧ i ≤ hi)
  | _ => false
noncomputable def azC (c : Nat) : Bool := decide (97 ≤ c ∧ c ≤ 122)
noncomputable def azS (x : Str) : Bool := x.cps.toList.all azC
noncomputable def isN : D → Bool
  | .str x => decide (1 ≤ x.length ∧ x.length ≤ 8) && azS x
  | _ => false
noncomputable def isS : D → Bool
  | .tup [a, b, c] => isW 1 999 a && (isW 0 999 b && isW 0 999 c)
  | _ => false
theorem isN_str {x : Str} : isN (.str x) = (decide (1 ≤ x.length ∧ x.length ≤ 8) && azS x) := rfl
theorem occ_az : ∀ c : Nat, c < 128 → (Builtin.Str.occurrences letters ⟨#[c]⟩ 0 letters.length 1).isEmpty = !azC c := by decide +kernel
theorem in_az {neg : Bool} {c : Nat} (hc : c < 128) : inD neg (.str ⟨#[c]⟩) (.str (Str.ofString "abcdefghijklmnopqrstuvwxyz")) = some (.bl (xorB neg (azC c))) := by
  show some (D.bl (xorB neg (!(Builtin.Str.occurrences letters ⟨#[c]⟩ 0 letters.length 1).isEmpty))) = _
  rw [occ_az c hc, Bool.not_not]
section
variable {d : D} {lo hi : Int} {μ : List SV} {Q : SV → List SV → Prop} {X : Ex → List SV → Prop}
theorem whO (ok : D.ok3 d) (h : Q (.dat (.bl (isW lo hi d))) μ) : Wf F_is_whole [.dat d, .dat (.int lo), .dat (.int hi)] μ Q X := by
  cases d with
  | int i => exact wh_ok h
  | kl => exact ok.elim
  | kt => exact ok.elim
  | dT => exact ok.elim
  | wK => exact ok.elim
  | wT => exact ok.elim
  | fn => exact ok.elim
  | exc => exact ok.elim
  | bl b =>
    unfold F_is_whole fb_is_whole
    simp [wf_run, show isiD "int" (.bl b) = some (.bl true) from rfl, show isiD "bool" (.bl b) = some (.bl true) from rfl]
    exact h
  | non =>
    unfold F_is_whole fb_is_whole
    simp [wf_run, show isiD "int" .non = some (.bl false) from rfl]
    exact h
  | str x =>
    unfold F_is_whole fb_is_whole
    simp [wf_run, show isiD "int" (.str x) = some (.bl false) from rfl]
    exact h
  | lst x =>
    unfold F_is_whole fb_is_whole
    simp [wf_run, show isiD "int" (.lst x) = some (.bl false) from rfl]
    exact h
  | tup x =>
    unfold F_is_whole fb_is_whole
    simp [wf_run, show isiD "int" (.tup x) = some (.bl false) from rfl]
    exact h
  | dK k x =>
    unfold F_is_whole fb_is_whole
    simp [wf_run, show isiD "int" (.dK k x) = some (.bl false) from rfl]
    exact h
theorem lwhO (ok : D.ok3 d) (h : Q (.dat (.bl (isW lo hi d))) μ) : Wf F__law_is_whole [.dat d, .dat (.int lo), .dat (.int hi)] μ Q X := by
  rw [show F__law_is_whole = F_is_whole from rfl]
  exact whO ok h
theorem nmO (ok : D.ok3 d) (h : Q (.dat (.bl (isN d))) μ) : Wf F_is_name [.dat d] μ Q X := by
  cases d with
  | str x =>
    have ok : (∀ c ∈ x.cps.toList, c < 128) ∧ x.length ≤ 10 := ok
    unfold F_is_name fb_is_name
    simp [wf_run, show isiD "str" (.str x) = some (.bl true) from rfl]
    have sz : x.cps.toList.length = x.length := rfl
    refine ⟨by omega, fun h1 => ⟨fun h2 => ?_, fun h2 => ?_⟩, fun h1 => ?_⟩
    · refine ctL_map (xs := x.cps.toList) (e := fun c => .str ⟨#[c]⟩) (fun c => .dat (.bl (azC c))) (by omega) (fun c hc => ?_) ?_
      · simp [in_az (neg := false) (ok.1 c hc), xorB]
      · have e : isN (.str x) = x.cps.toList.all azC := by
          rw [isN_str, decide_eq_true (show 1 ≤ x.length ∧ x.length ≤ 8 by omega), Bool.true_and]
          rfl
        rw [e] at h
        simp
        simpa using h
    · have e : isN (.str x) = false := by rw [isN_str, decide_eq_false (show ¬ (1 ≤ x.length ∧ x.length ≤ 8) by omega), Bool.false_and]
      rw [e] at h
      exact h
    · have e : isN (.str x) = false := by rw [isN_str, decide_eq_false (show ¬ (1 ≤ x.length ∧ x.length ≤ 8) by omega), Bool.false_and]
      rw [e] at h
      exact h
  | kl => exact ok.elim
  | kt => exact ok.elim
  | dT => exact ok.elim
  | wK => exact ok.elim
  | wT => exact ok.elim
  | fn => exact ok.elim
  | exc => exact ok.elim
  | bl b =>
    unfold F_is_name fb_is_name
    simp [wf_run, show isiD "str" (.bl b) = some (.bl false) from rfl]
    exact h
  | int b =>
    unfold F_is_name fb_is_name
    simp [wf_run, show isiD "str" (.int b) = some (.bl false) from rfl]
    exact h
  | non =>
    unfold F_is_name fb_is_name
    simp [wf_run, show isiD "str" .non = some (.bl false) from rfl]
    exact h
  | lst x =>
    unfold F_is_name fb_is_name
    simp [wf_run, show isiD "str" (.lst x) = some (.bl false) from rfl]
    exact h
  | tup x =>
    unfold F_is_name fb_is_name
    simp [wf_run, show isiD "str" (.tup x) = some (.bl false) from rfl]
    exact h
  | dK k x =>
    unfold F_is_name fb_is_name
    simp [wf_run, show isiD "str" (.dK k x) = some (.bl false) from rfl]
    exact h
noncomputable def isT : D → Bool
  | .tup _ => true
  | _ => false
end
end FL
namespace FL
open PySem PySem.Spec PyProof.Rows L2 L3
section
variable {d : D} {μ : List SV} {Q : SV → List SV → Prop} {X : Ex → List SV → Prop} {y3 y4 y5 y6 y7 y8 : Option SV}
end
end FL
namespace FL
open PySem PySem.Spec PyProof.Rows L2 L3
@[simp] theorem int_true : L3.intD [.bl true] = some (.int 1) := rfl
@[simp] theorem int_false : L3.intD [.bl false] = some (.int 0) := rfl
section
variable {d : D} {lo hi : Int} {μ : List SV} {Q : SV → List SV → Prop} {X : Ex → List SV → Prop}
theorem lnmO (ok : D.ok3 d) (h : Q (.dat (.bl (isN d))) μ) : Wf F__law_is_name [.dat d] μ Q X := by
  unfold F__law_is_name fb__law_is_name
  cases d with
  | str x =>
    have ok : (∀ c ∈ x.cps.toList, c < 128) ∧ x.length ≤ 10 := ok
    have sz : x.cps.toList.length = x.length := rfl
    simp [wf_run, show isiD "str" (.str x) = some (.bl true) from rfl]
    refine ⟨by omega, fun h1 => ⟨fun h2 => ?_, fun h2 => ?_⟩, fun h1 => ?_⟩
    · refine ctL_filter (xs := x.cps.toList) (e := fun c => .str ⟨#[c]⟩) (fun c => !azC c) (fun c => .dat (.str ⟨#[c]⟩)) (by omega) (fun c hc => ?_) ?_
      · have ei := in_az (neg := true) (ok.1 c hc)
        simp [ei, xorB]
        cases azC c <;> simp
      · have e : isN (.str x) = x.cps.toList.all azC := by
          rw [isN_str, decide_eq_true (show 1 ≤ x.length ∧ x.length ≤ 8 by omega), Bool.true_and]
          rfl
        rw [e] at h
        have pk : peeks ((x.cps.toList.filter fun c => !azC c).map fun c => SV.dat (.str ⟨#[c]⟩)) = some (((x.cps.toList.filter fun c => !azC c).map fun c : Nat => (⟨#[c]⟩ : Str)).map D.str) := by
          rw [List.map_map]
          exact peeks_mapf (f := fun c => D.str ⟨#[c]⟩)
        have en := eq_nil (rs := (x.cps.toList.filter fun c => !azC c).map fun c : Nat => (⟨#[c]⟩ : Str)) fun w hw => by
          obtain ⟨c, hc, rfl⟩ := List.mem_map.mp hw
          have := ok.1 c (List.mem_filter.mp hc).1
          refine ⟨by show 1 ≤ 8; decide, ?_⟩
          rw [lay_iff]
          intro d hd
          have hd : d = c := by simpa using hd
          omega
        generalize ((x.cps.toList.filter fun c => !azC c).map fun c => SV.dat (.str ⟨#[c]⟩)) = F at pk
        simp only [List.map_map] at en pk
        simp [pk, en]
        have e9 : decide (∀ a, a ∈ x.cps → azC a = true) = x.cps.toList.all azC := by
          rw [Bool.eq_iff_iff, decide_eq_true_iff, List.all_eq_true]
          simp
        rw [e9]
        exact h
    · have e : isN (.str x) = false := by rw [isN_str, decide_eq_false (show ¬ (1 ≤ x.length ∧ x.length ≤ 8) by omega), Bool.false_and]
      rw [e] at h
      rw [decide_eq_false (by omega)]
      exact h
    · have e : isN (.str x) = false := by rw [isN_str, decide_eq_false (show ¬ (1 ≤ x.length ∧ x.length ≤ 8) by omega), Bool.false_and]
      rw [e] at h
      exact h
  | kl => exact ok.elim
  | kt => exact ok.elim
  | dT => exact ok.elim
  | wK => exact ok.elim
  | wT => exact ok.elim
  | fn => exact ok.elim
  | exc => exact ok.elim
  | bl b =>
    simp [wf_run, show isiD "str" (.bl b) = some (.bl false) from rfl]
    exact h
  | int b =>
    simp [wf_run, show isiD "str" (.int b) = some (.bl false) from rfl]
    exact h
  | non =>
    simp [wf_run, show isiD "str" .non = some (.bl false) from rfl]
    exact h
  | lst x =>
    simp [wf_run, show isiD "str" (.lst x) = some (.bl false) from rfl]
    exact h
  | tup x =>
    simp [wf_run, show isiD "str" (.tup x) = some (.bl false) from rfl]
    exact h
  | dK k x =>
    simp [wf_run, show isiD "str" (.dK k x) = some (.bl false) from rfl]
    exact h
end
end FL
namespace FL
open PySem PySem.Spec PyProof.Rows L2 L3
section
variable {d : D} {μ : List SV} {Q : SV → List SV → Prop} {X : Ex → List SV → Prop} {y0 y1 y4 y5 y6 : Option SV}
end
end FL
namespace FL
open PySem PySem.Spec PyProof.Rows L2 L3
theorem ok3_bl {b : Bool} : D.ok3 (.bl b) := by show True; trivial
section
variable {kA : Addr} {d : D} {μ : List SV} {Q : SV → List SV → Prop} {X : Ex → List SV → Prop}
end
end FL
namespace FL
open PySem PySem.Spec PyProof.Rows L2 L3
noncomputable def As (x : Str) (n : Nat) : Prop := (∀ c ∈ x.cps.toList, c < 128) ∧ x.length ≤ n
theorem As.lay {x : Str} {n : Nat} (h : As x n) : PyData.canLay0 (.str x) = true := lay_iff.mpr fun c hc => by have := h.1 c hc; omega
theorem As.mono {x : Str} {n m : Nat} (h : As x n) (hn : n ≤ m) : As x m := ⟨h.1, Nat.le_trans h.2 hn⟩
theorem str_len {x : Str} : x.cps.toList.length = x.length := rfl
theorem str_nil {x : Str} (h : x.length = 0) : x = Str.ofString "" := by
  obtain ⟨⟨l⟩⟩ := x
  have : l = [] := List.eq_nil_of_length_eq_zero h
  subst this
  rfl
theorem str_one {x : Str} (q : ¬ x = Str.ofString "") : 1 ≤ x.length := Nat.pos_of_ne_zero fun z => q (str_nil z)
noncomputable def fg10 : Str := Str.ofString "0123456789"
noncomputable def fgC (c : Nat) : Bool := decide (48 ≤ c ∧ c ≤ 57)
theorem occ_fg : ∀ c : Nat, c < 128 → (Builtin.Str.occurrences fg10 ⟨#[c]⟩ 0 fg10.length 1).isEmpty = !fgC c := by decide +kernel
theorem in_fg {neg : Bool} {c : Nat} (hc : c < 128) : inD neg (.str ⟨#[c]⟩) (.str (Str.ofString "0123456789")) = some (.bl (xorB neg (fgC c))) := by
  show some (D.bl (xorB neg (!(Builtin.Str.occurrences fg10 ⟨#[c]⟩ 0 fg10.length 1).isEmpty))) = _
  rw [occ_fg c hc, Bool.not_not]
theorem idx_fg0 : ∀ c : Nat, c < 58 → 48 ≤ c → Builtin.Str.occurrences fg10 ⟨#[c]⟩ 0 fg10.length 1 = [c - 48] := by decide +kernel
theorem idx_fg {c : Nat} (h : 48 ≤ c ∧ c ≤ 57) : dIdxS (.str (Str.ofString "0123456789")) (.str ⟨#[c]⟩) = some (.int ((c - 48 : Nat) : Int)) := by
  show (match Builtin.Str.occurrences fg10 ⟨#[c]⟩ 0 fg10.length 1 with | k :: _ => some (D.int (k : Nat)) | [] => none) = _
  rw [idx_fg0 c (by omega) h.1]
section
variable {x : Str} {d : D} {μ : List SV} {Q : SV → List SV → Prop} {X : Ex → List SV → Prop}
theorem nmL (a : As x 1000) (h : Q (.dat (.bl (isN (.str x)))) μ) : Wf F_is_name [.dat (.str x)] μ Q X := by
  obtain ⟨ok, hl⟩ := a
  unfold F_is_name fb_is_name
  simp [wf_run, show isiD "str" (.str x) = some (.bl true) from rfl]
  have sz : x.cps.toList.length = x.length := rfl
  refine ⟨by omega, fun h1 => ⟨fun h2 => ?_, fun h2 => ?_⟩, fun h1 => ?_⟩
  · refine ctL_map (xs := x.cps.toList) (e := fun c => .str ⟨#[c]⟩) (fun c => .dat (.bl (azC c))) (by omega) (fun c hc => ?_) ?_
    · simp [in_az (neg := false) (ok c hc), xorB]
    · have e : isN (.str x) = x.cps.toList.all azC := by
        rw [isN_str, decide_eq_true (show 1 ≤ x.length ∧ x.length ≤ 8 by omega), Bool.true_and]
        rfl
      rw [e] at h
      simp
      simpa using h
  · have e : isN (.str x) = false := by rw [isN_str, decide_eq_false (show ¬ (1 ≤ x.length ∧ x.length ≤ 8) by omega), Bool.false_and]
    rw [e] at h
    exact h
  · have e : isN (.str x) = false := by rw [isN_str, decide_eq_false (show ¬ (1 ≤ x.length ∧ x.length ≤ 8) by omega), Bool.false_and]
    rw [e] at h
    exact h
theorem lnmL (a : As x 1000) (h : Q (.dat (.bl (isN (.str x)))) μ) : Wf F__law_is_name [.dat (.str x)] μ Q X := by
  obtain ⟨ok, hl⟩ := a
  unfold F__law_is_name fb__law_is_name
  have sz : x.cps.toList.length = x.length := rfl
  simp [wf_run, show isiD "str" (.str x) = some (.bl true) from rfl]
  refine ⟨by omega, fun h1 => ⟨fun h2 => ?_, fun h2 => ?_⟩, fun h1 => ?_⟩
  · refine ctL_filter (xs := x.cps.toList) (e := fun c => .str ⟨#[c]⟩) (fun c => !azC c) (fun c => .dat (.str ⟨#[c]⟩)) (by omega) (fun c hc => ?_) ?_
    · have ei := in_az (neg := true) (ok c hc)
      simp [ei, xorB]
      cases azC c <;> simp
    · have e : isN (.str x) = x.cps.toList.all azC := by
        rw [isN_str, decide_eq_true (show 1 ≤ x.length ∧ x.length ≤ 8 by omega), Bool.true_and]
        rfl
      rw [e] at h
      have pk : peeks ((x.cps.toList.filter fun c => !azC c).map fun c => SV.dat (.str ⟨#[c]⟩)) = some (((x.cps.toList.filter fun c => !azC c).map fun c : Nat => (⟨#[c]⟩ : Str)).map D.str) := by
        rw [List.map_map]
        exact peeks_mapf (f := fun c => D.str ⟨#[c]⟩)
      have en := eq_nil (rs := (x.cps.toList.filter fun c => !azC c).map fun c : Nat => (⟨#[c]⟩ : Str)) fun w hw => by
        obtain ⟨c, hc, rfl⟩ := List.mem_map.mp hw
        have := ok c (List.mem_filter.mp hc).1
        refine ⟨by show 1 ≤ 8; decide, ?_⟩
        rw [lay_iff]
        intro d hd
        have hd : d = c := by simpa using hd
        omega
      generalize ((x.cps.toList.filter fun c => !azC c).map fun c => SV.dat (.str ⟨#[c]⟩)) = F at pk
      simp only [List.map_map] at en pk
      simp [pk, en]
      have e9 : decide (∀ a, a ∈ x.cps → azC a = true) = x.cps.toList.all azC := by
        rw [Bool.eq_iff_iff, decide_eq_true_iff, List.all_eq_true]
        simp
      rw [e9]
      exact h
  · have e : isN (.str x) = false := by rw [isN_str, decide_eq_false (show ¬ (1 ≤ x.length ∧ x.length ≤ 8) by omega), Bool.false_and]
    rw [e] at h
    rw [decide_eq_false (by omega)]
    exact h
  · have e : isN (.str x) = false := by rw [isN_str, decide_eq_false (show ¬ (1 ≤ x.length ∧ x.length ≤ 8) by omega), Bool.false_and]
    rw [e] at h
    exact h
noncomputable def Nq (d : D) : Prop := D.ok3 d ∨ ∃ x, d = .str x ∧ As x 1000
theorem nmQ (a : Nq d) (h : Q (.dat (.bl (isN d))) μ) : Wf F_is_name [.dat d] μ Q X := by
  rcases a with a | ⟨x, rfl, a⟩
  · exact nmO a h
  · exact nmL a h
theorem lnmQ (a : Nq d) (h : Q (.dat (.bl (isN d))) μ) : Wf F__law_is_name [.dat d] μ Q X := by
  rcases a with a | ⟨x, rfl, a⟩
  · exact lnmO a h
  · exact lnmL a h
variable {kN kD : Addr}
theorem needN1 (a : Nq d) (h : isN d = true → Q (.dat .non) μ) (hx : isN d = false → X ⟨.ref kN, []⟩ μ) : Wf (F_need_name_2c4 kN kD) [.dat d] μ Q X := by
  unfold F_need_name_2c4 fb_need_name_2c4
  simp [wf_run]
  refine nmQ a ?_
  cases hs : isN d
  · simpa using hx hs
  · simpa using h hs
theorem needD1 (a : D.ok3 d) (h : isW 0 9999 d = true → Q (.dat .non) μ) (hx : isW 0 9999 d = false → X ⟨.ref kD, []⟩ μ) : Wf (F_need_day_ad4 kN kD) [.dat d] μ Q X := by
  unfold F_need_day_ad4 fb_need_day_ad4
  simp [wf_run]
  refine whO a ?_
  cases hs : isW 0 9999 d
  · simpa using hx hs
  · simpa using h hs
theorem said1N (a : Nq d) (hne : kN ≠ kD) (h : Q (.dat (.str (if isN d then "none" else "name"))) μ) : Wf (F__law_said_e48 kN kD) [.dat (.int 0), .dat d] μ Q X := by
  unfold F__law_said_e48 fb__law_said_e48
  simp [wf_run]
  rw [ws_tryH]
  simp
  refine needN1 a (fun hs => ?_) (fun hs => ?_)
  · rw [hs] at h
    simp [SV.isN]
    exact h
  · rw [hs] at h
    have en : (SV.dat (D.exc kN [] [])).isN = false := rfl
    simp [en, List.lookup]
    exact ⟨by decide, h⟩
theorem said1D (a : D.ok3 d) (hne : kN ≠ kD) (h : Q (.dat (.str (if isW 0 9999 d then "none" else "day"))) μ) : Wf (F__law_said_e48 kN kD) [.dat (.int 1), .dat d] μ Q X := by
  have e1 : (kD == kN) = false := by rw [beq_eq_false_iff_ne]; exact hne.symm
  unfold F__law_said_e48 fb__law_said_e48
  simp [wf_run]
  rw [ws_tryH]
  simp
  refine needD1 a (fun hs => ?_) (fun hs => ?_)
  · rw [hs] at h
    simp [SV.isN]
    exact h
  · rw [hs] at h
    have en : (SV.dat (D.exc kD [] [])).isN = false := rfl
    simp [en, List.lookup, e1]
    exact ⟨by decide, h⟩
end
open PySem.NumText
noncomputable def figs (x : Str) : Bool := x.cps.toList.all fgC
noncomputable def okNum (x : Str) : Bool := decide (1 ≤ x.length ∧ x.length ≤ 5) && (figs x && !(decide (x.cps.toList.head? = some 48) && !decide (x = "0")))
noncomputable def numD (x : Str) (most : Int) : D := if okNum x = true ∧ ((PySem.NumText.digitsVal x.cps.toList : Nat) : Int) ≤ most then .int ((PySem.NumText.digitsVal x.cps.toList : Nat) : Int) else .non
theorem starts0 {x : Str} : Txt.startswith x (Str.ofString "0") = decide (x.cps.toList.head? = some 48) := by
  obtain ⟨⟨l⟩⟩ := x
  show (decide (0 + 1 ≤ l.length) && ((⟨l⟩ : Array Nat).extract 0 (0 + 1) == #[48])) = _
  cases l with
  | nil => rfl
  | cons c l =>
    simp
    rw [Bool.eq_iff_iff]
    simp
section
variable {x : Str} {most : Int} {μ : List SV} {Q : SV → List SV → Prop} {X : Ex → List SV → Prop}
theorem eq_strA {a b : Str} {n m : Nat} (ha : As a n) (hb : As b m) : eqD (.str a) (.str b) = some (decide (a = b)) := by
  rw [eqD_sm (a := .str a) (b := .str b) ha.lay hb.lay (by simp [D.dp]) (by simp [D.dp]), eqT_pl (by simp) (by simp)]
  simp
theorem num_ok (a : As x 100000) (h : Q (.dat (numD x most)) μ) : Wf F_number_in [.dat (.str x), .dat (.int most)] μ Q X := by
  have a0 : As (Str.ofString "0") 1 := ⟨by decide +kernel, by decide +kernel⟩
  have ok := a.1
  have sz := str_len (x := x)
  have e0 := eq_strA a a0
  unfold F_number_in fb_number_in
  simp [wf_run]
  have hl := a.2
  refine ⟨by omega, fun h1 => ⟨fun h2 => ?_, fun h2 => ?_⟩, fun h1 => ?_⟩
  · refine ctL_map (xs := x.cps.toList) (e := fun c => .str ⟨#[c]⟩) (fun c => .dat (.bl (fgC c))) (by omega) (fun c hc => ?_) ?_
    · simp [in_fg (neg := false) (ok c hc), xorB]
    simp
    have ef : x.cps.toList.all fgC = figs x := rfl
    simp only [Array.all_toList] at ef
    rw [ef]
    have hs : dStarts (.str x) (.str (Str.ofString "0")) = some (.bl (decide (x.cps.toList.head? = some 48))) := by
      rw [← starts0]; rfl
    cases hf : figs x
    · have e : numD x most = .non := by
        unfold numD okNum
        rw [hf]
        simp
      rw [e] at h
      simp
      exact h
    · have hd : PySem.NumText.AllDigits x.cps.toList := fun c hc => by
        have := List.all_eq_true.mp hf c hc
        exact of_decide_eq_true this
      have hi : intSD [.str x] = some (.int ((PySem.NumText.digitsVal x.cps.toList : Nat) : Int)) := by
        show (if x.length ≤ 640 then (PySem.intText? x).map D.int else none) = _
        rw [if_pos (by omega), PySem.intText_digits hd (fun e => by rw [e] at sz; simp at sz; omega) (by omega)]
        rfl
      have eo : okNum x = !(decide (x.cps.toList.head? = some 48) && !decide (x = "0")) := by
        unfold okNum
        rw [decide_eq_true (by omega), hf, Bool.true_and, Bool.true_and]
      unfold numD at h
      rw [eo] at h
      generalize decide (x.cps.toList.head? = some 48) = b1 at hs h
      generalize eb2 : decide (x = Str.ofString "0") = b2 at e0
      have eb2 : decide (x = "0") = b2 := eb2
      rw [eb2] at h
      generalize ((PySem.NumText.digitsVal x.cps.toList : Nat) : Int) = v at hi h
      have fin : Q (.dat (if v ≤ most then D.int v else D.non)) μ → (v ≤ most → Q (SV.dat (D.int v)) μ) ∧ (most < v → Q (SV.dat D.non) μ) := fun h =>
        ⟨fun q => by rw [if_pos q] at h; exact h, fun q => by rw [if_neg (by omega)] at h; exact h⟩
      simp [hs]
      cases b1
      · simp at h
        simp [hi]
        exact fin h
      · cases b2
        · have nz : ¬ x = Str.ofString "0" := of_decide_eq_false eb2
          simp at h
          simp [nz]
          exact h
        · have z : x = Str.ofString "0" := of_decide_eq_true eb2
          have z2 : (x = Str.ofString "0") = True := eq_true z
          simp at h
          simp [z2, hi]
          exact fin h
  · have e : numD x most = .non := by
      unfold numD okNum
      rw [decide_eq_false (by omega), Bool.false_and, if_neg (by simp)]
    rw [e] at h
    exact h
  · have e : numD x most = .non := by
      unfold numD okNum
      rw [decide_eq_false (by omega), Bool.false_and, if_neg (by simp)]
    rw [e] at h
    exact h
theorem foldInt : ∀ (cs : List Nat) (v : Nat), (∀ c ∈ cs, 48 ≤ c ∧ c ≤ 57) → cs.foldl (fun (a : Int) c => 10 * a + ((c - 48 : Nat) : Int)) (v : Int) = ((cs.foldl (fun a c => a * 10 + (c - 48)) v : Nat) : Int)
  | [], _, _ => rfl
  | c :: cs, v, h => by
    rw [List.foldl_cons, List.foldl_cons, ← foldInt cs _ fun d hd => h d (by simp [hd])]
    congr 1
    have := h c (by simp)
    omega
theorem fold_le : ∀ (cs : List Nat) (v : Nat), (∀ c ∈ cs, 48 ≤ c ∧ c ≤ 57) → cs.foldl (fun a c => a * 10 + (c - 48)) v + 1 ≤ (v + 1) * 10 ^ cs.length
  | [], _, _ => by simp
  | c :: cs, v, h => by
    rw [List.foldl_cons, List.length_cons, Nat.pow_succ]
    refine Nat.le_trans (fold_le cs _ fun d hd => h d (by simp [hd])) ?_
    have := h c (by simp)
    rw [Nat.mul_comm (10 ^ cs.length), ← Nat.mul_assoc]
    exact Nat.mul_le_mul_right _ (by omega)
noncomputable def rdT3 : FS := (fSeq (fFor (.nm 4) (fItems (fVar 0)) lb__law_read_1)
    (fRet (fIfE (fTest (fBin gGt (fVar 3) (fVar 1))) (fC .non) (fVar 3))))
noncomputable def rdT1 : FS := (fSeq (fIf (fOr (fTest (fBin (g2 dEq) (fVar 0) (fC (.str "")))) (fOr (fTest (fBin gGt (fB (gD lenD) (fCons (fVar 0) fNil)) (fC (.int 5)))) (fOr (fTest (fBin (g2 dNe) (fVar 2) (fLst fNil))) (fAnd (fTest (fBin (g2 dEq) (fBin gIx (fVar 0) (fC (.int 0))) (fC (.str "0")))) (fTest (fBin (g2 dNe) (fVar 0) (fC (.str "0")))))))) (fRet (fC .non)) fNext)
    (fSeq (fSet 3 (fFrz (fC (.int 0))))
    rdT3))
theorem rdT_eq : fb__law_read = (fSeq (fSet 2 (fFrz (fComp (.nm 4) (fItems (fVar 0)) (fTest (fBin (g2 (inD true)) (fVar 4) (fC (.str "0123456789")))) (fVar 4) [4])))
    rdT1) := rfl
theorem rdT3_ok {y2 : Option SV} (hd : ∀ c ∈ x.cps.toList, 48 ≤ c ∧ c ≤ 57) (hl : x.length ≤ 5) (h : Q (.dat (if ((digitsVal x.cps.toList : Nat) : Int) ≤ most then .int ((digitsVal x.cps.toList : Nat) : Int) else .non)) μ) :
    Ws rdT3 ⟨[some (.dat (.str x)), some (.dat (.int most)), y2, some (.dat (.int 0)), none], μ⟩ (retP Q X) := by
  unfold rdT3
  simp
  have sz := str_len (x := x)
  refine forL_ind (xs := x.cps.toList) (e := fun c => .str ⟨#[c]⟩) (fun pre S => ∃ y4, S = ⟨[some (.dat (.str x)), some (.dat (.int most)), y2, some (.dat (.int ((digitsVal pre : Nat) : Int))), y4], μ⟩) ⟨none, rfl⟩ (fun pre c post S e hI => ?_) (fun S hI => ?_)
  · obtain ⟨y4, rfl⟩ := hI
    have hc := hd c (by rw [e]; simp)
    have hp := fold_le pre 0 fun d hdd => hd d (by rw [e]; simp [hdd])
    have pl : pre.length ≤ 5 := by have := congrArg List.length e; rw [sz] at this; simp at this; omega
    have hb : (0 + 1) * 10 ^ pre.length ≤ 100000 := by
      rw [Nat.zero_add, Nat.one_mul]
      exact Nat.pow_le_pow_right (by decide) pl
    have ed : ((digitsVal (pre ++ [c]) : Nat) : Int) = 10 * ((digitsVal pre : Nat) : Int) + ((c - 48 : Nat) : Int) := by
      unfold digitsVal
      rw [List.foldl_append]
      show ((pre.foldl (fun a c => a * 10 + (c - 48)) 0 * 10 + (c - 48) : Nat) : Int) = _
      omega
    have hb2 : digitsVal pre ≤ 100000 := by unfold digitsVal; omega
    unfold lb__law_read_1
    simp [idx_fg hc]
    exact ed.symm
  · obtain ⟨y4, rfl⟩ := hI
    simp
    exact ⟨fun q => by rw [if_neg (by omega)] at h; exact h, fun q => by rw [if_pos q] at h; exact h⟩
theorem read_ok (a : As x 100000) (h : Q (.dat (numD x most)) μ) : Wf F__law_read [.dat (.str x), .dat (.int most)] μ Q X := by
  have a0 : As (Str.ofString "0") 1 := ⟨by decide +kernel, by decide +kernel⟩
  have ok := a.1
  have hl := a.2
  have sz := str_len (x := x)
  have no : okNum x = false → Q (.dat .non) μ := fun e => by
    unfold numD at h
    rw [e, if_neg (by simp)] at h
    exact h
  unfold F__law_read
  rw [rdT_eq]
  generalize e1 : rdT1 = T
  simp [wf_run]
  refine ctL_filter (xs := x.cps.toList) (e := fun c => .str ⟨#[c]⟩) (fun c => !fgC c) (fun c => .dat (.str ⟨#[c]⟩)) (by omega) (fun c hc => ?_) ?_
  · have ei := in_fg (neg := true) (ok c hc)
    simp [ei, xorB]
    cases fgC c <;> simp
  · have pk : peeks ((x.cps.toList.filter fun c => !fgC c).map fun c => SV.dat (.str ⟨#[c]⟩)) = some (((x.cps.toList.filter fun c => !fgC c).map fun c : Nat => (⟨#[c]⟩ : Str)).map D.str) := by
      rw [List.map_map]
      exact peeks_mapf (f := fun c => D.str ⟨#[c]⟩)
    have en := eq_nil (rs := (x.cps.toList.filter fun c => !fgC c).map fun c : Nat => (⟨#[c]⟩ : Str)) fun w hw => by
      obtain ⟨c, hc, rfl⟩ := List.mem_map.mp hw
      have := ok c (List.mem_filter.mp hc).1
      refine ⟨by show 1 ≤ 8; decide, ?_⟩
      rw [lay_iff]
      intro d hd
      have hd : d = c := by simpa using hd
      omega
    have ef : decide ((x.cps.toList.filter fun c => !fgC c).map (fun c : Nat => (⟨#[c]⟩ : Str)) = []) = figs x := by
      rw [Bool.eq_iff_iff, decide_eq_true_iff, List.map_eq_nil_iff, List.filter_eq_nil_iff]
      unfold figs
      rw [List.all_eq_true]
      simp
    rw [ef] at en
    generalize ((x.cps.toList.filter fun c => !fgC c).map fun c => SV.dat (.str ⟨#[c]⟩)) = F at pk
    generalize ((x.cps.toList.filter fun c => !fgC c).map fun c : Nat => (⟨#[c]⟩ : Str)) = G at pk en
    simp [pk]
    subst e1
    unfold rdT1
    generalize e3 : rdT3 = T
    simp [en]
    refine ⟨fun q => no ?_, fun q => ⟨by omega, fun h5 => no ?_, fun h5 => ?_⟩⟩
    · subst q
      rfl
    · unfold okNum
      rw [decide_eq_false (by omega), Bool.false_and]
    have hl1 := str_one q
    cases hf : figs x
    · simp
      refine no ?_
      unfold okNum
      rw [hf, Bool.false_and, Bool.and_false]
    · simp
      obtain ⟨c, hc0, hcm, hch⟩ : ∃ c, atI x.cps.toList 0 = some c ∧ c ∈ x.cps.toList ∧ x.cps.toList.head? = some c := by
        cases el : x.cps.toList with
        | nil => rw [el] at sz; simp at sz; omega
        | cons c l => exact ⟨c, by simp, by simp, rfl⟩
      have ha := List.all_eq_true.mp hf c hcm
      have e48 : ((⟨#[c]⟩ : Str) = Str.ofString "0") ↔ c = 48 := by
        constructor
        · intro e
          have := congrArg (fun s : Str => s.cps.toList) e
          have e2 : (Str.ofString "0").cps.toList = [48] := by decide +kernel
          simp only [e2] at this
          simpa using this
        · rintro rfl
          decide +kernel
      have last : okNum x = true → Ws T ⟨[some (.dat (.str x)), some (.dat (.int most)), some (.dat (.lst (G.map D.str))), some (.dat (.int 0)), none], μ⟩ (retP Q X) := fun e => by
        subst e3
        refine rdT3_ok (fun c hc => of_decide_eq_true (List.all_eq_true.mp hf c hc)) (by omega) ?_
        unfold numD at h
        rw [e] at h
        simpa using h
      have eo : okNum x = !(decide (c = 48) && !decide (x = Str.ofString "0")) := by
        unfold okNum
        rw [decide_eq_true (by omega), hf, Bool.true_and, Bool.true_and, hch]
        simp
      have lay1 : As (⟨#[c]⟩ : Str) 1 := ⟨fun d hd => by
        have hd : d = c := by simpa using hd
        subst hd
        exact ok d hcm, by show 1 ≤ 1; decide⟩
      simp [hc0]
      refine ⟨by omega, ?_⟩
      simp [e48]
      refine ⟨fun c0 => ⟨fun x0 => last ?_, fun x0 => no ?_⟩, fun c0 => last ?_⟩
      · rw [eo, decide_eq_true x0]; simp
      · rw [eo, decide_eq_true c0, decide_eq_false x0]; rfl
      · rw [eo, decide_eq_false c0]; rfl
theorem num_cases (x : Str) (most : Int) : numD x most = .non ∨ ∃ v : Nat, numD x most = .int (v : Int) ∧ v < 10 ^ 5 := by
  unfold numD
  split
  · rename_i hc
    refine .inr ⟨_, rfl, ?_⟩
    have h1 := hc.1
    unfold okNum at h1
    simp only [Bool.and_eq_true, decide_eq_true_iff] at h1
    have hd : ∀ c ∈ x.cps.toList, 48 ≤ c ∧ c ≤ 57 := fun c hc => of_decide_eq_true (List.all_eq_true.mp h1.2.1 c hc)
    have := fold_le x.cps.toList 0 hd
    have hp : 10 ^ x.cps.toList.length ≤ 10 ^ 5 := Nat.pow_le_pow_right (by decide) h1.1.2
    unfold digitsVal
    omega
  · exact .inl rfl
theorem same_ok (h : Q (.dat (.bl true)) μ) : Wf F__law_same [.dat (numD x most), .dat (numD x most)] μ Q X := by
  unfold F__law_same fb__law_same
  rcases num_cases x most with e | ⟨v, e, hv⟩
  · rw [e]
    simp [wf_run, SV.isN]
    exact h
  · rw [e]
    have i1 : isiD "int" (.int (v : Int)) = some (.bl true) := rfl
    have i2 : isiD "bool" (.int (v : Int)) = some (.bl false) := rfl
    simp [wf_run, SV.isN, i1, i2]
    exact h
end
end FL
namespace FL
open PySem PySem.Spec PyProof.Rows L2 L3
noncomputable def addw (cur : List Str) (w : Str) : List Str := if w.length = 0 then cur else cur ++ [w]
noncomputable abbrev PS := List (List Str) × List Str × Str
noncomputable def pst (s : PS) (c : Nat) : PS := if c = 10 then (s.1 ++ [addw s.2.1 s.2.2], [], Str.empty) else if c = 32 then (s.1, addw s.2.1 s.2.2, Str.empty) else (s.1, s.2.1, s.2.2 ++ ⟨#[c]⟩)
noncomputable def pdone (s : PS) : List (List Str) := s.1 ++ [addw s.2.1 s.2.2]
noncomputable def p0 : PS := ([], [], Str.empty)
noncomputable def Sg (c : Nat) : Prop := c = 10 ∨ (32 ≤ c ∧ c ≤ 126)
theorem isSp : ∀ c : Nat, c < 127 → 32 ≤ c → Unicode.isSpace c = decide (c = 32) := by decide +kernel
theorem step_eq {st : List Str × Str} {c : Nat} (h : 32 ≤ c ∧ c ≤ 126) : KWd.step st c = if c = 32 then (addw st.1 st.2, Str.empty) else (st.1, st.2 ++ ⟨#[c]⟩) := by
  unfold KWd.step addw
  rw [isSp c (by omega) h.1]
  by_cases q : c = 32
  · rw [if_pos (decide_eq_true q), if_pos q]
    split
    · rename_i z
      rw [← KWd.len0 z]
    · rfl
  · rw [if_neg (by simp [q]), if_neg q]
theorem line_fold {d : List (List Str)} : ∀ (cs : List Nat) (st : List Str × Str), (∀ c ∈ cs, 32 ≤ c ∧ c ≤ 126) → cs.foldl pst (d, st.1, st.2) = (d, (cs.foldl KWd.step st).1, (cs.foldl KWd.step st).2)
  | [], _, _ => rfl
  | c :: cs, st, h => by
    have hc := h c (by simp)
    rw [List.foldl_cons, List.foldl_cons, ← line_fold cs _ fun d hd => h d (by simp [hd]), step_eq hc]
    congr 1
    unfold pst
    rw [if_neg (by omega)]
    by_cases q : c = 32
    · rw [if_pos q, if_pos q]
    · rw [if_neg q, if_neg q]
theorem words_add (x : Str) : Txt.words x = addw (KWd.scan x).1 (KWd.scan x).2 := KWd.words_scan x
theorem join_fold : ∀ (ps : List Str) (d : List (List Str)), ps ≠ [] → (∀ p ∈ ps, ∀ c ∈ p.cps.toList, 32 ≤ c ∧ c ≤ 126) → pdone ((Str.join (Str.ofString "\n") ps).cps.toList.foldl pst (d, [], Str.empty)) = d ++ ps.map Txt.words
  | [], _, h, _ => absurd rfl h
  | [p], d, _, hp => by
    show pdone (p.cps.toList.foldl pst (d, (([], Str.empty) : List Str × Str).1, (([], Str.empty) : List Str × Str).2)) = _
    rw [line_fold _ _ (hp p (by simp))]
    show d ++ [addw (KWd.scan p).1 (KWd.scan p).2] = _
    rw [← words_add]
    rfl
  | p :: q :: r, d, _, hp => by
    have ej : Str.join (Str.ofString "\n") (p :: q :: r) = p ++ Str.ofString "\n" ++ Str.join (Str.ofString "\n") (q :: r) := rfl
    have e10 : (Str.ofString "\n").cps.toList = [10] := by decide +kernel
    rw [ej, Str.cps_append, Str.cps_append, Array.toList_append, Array.toList_append, List.foldl_append, List.foldl_append, e10]
    have e1 : p.cps.toList.foldl pst (d, [], Str.empty) = (d, (KWd.scan p).1, (KWd.scan p).2) := line_fold (d := d) _ ([], Str.empty) (hp p (by simp))
    have e2 : [10].foldl pst (d, (KWd.scan p).1, (KWd.scan p).2) = (d ++ [Txt.words p], [], Str.empty) := by
      show pst (d, (KWd.scan p).1, (KWd.scan p).2) 10 = _
      unfold pst
      rw [if_pos rfl, words_add]
    rw [e1, e2, join_fold (q :: r) _ (by simp) fun z hz => hp z (by simp [hz])]
    simp
theorem nl_one : Str.ofString "\n" = (⟨#[10]⟩ : Str) := by decide +kernel
theorem split_ne {x : Str} : Txt.split x (Str.ofString "\n") ≠ [] := fun e => by
  have := split_len x 10
  rw [← nl_one, e] at this
  have h2 : ∀ l : List Nat, (0 : Int) ≤ cnt 10 l := fun l => by
    induction l with
    | nil => rw [cnt_nil]; omega
    | cons c l ih => rw [cnt_cons]; split <;> omega
  have h2 := h2 x.cps.toList
  simp at this
  omega
theorem mem_join {c : Nat} {p : Str} : ∀ {ps : List Str}, p ∈ ps → c ∈ p.cps.toList → c ∈ (Str.join (Str.ofString "\n") ps).cps.toList
  | [q], h, hc => by rw [List.mem_singleton.mp h] at hc; exact hc
  | q :: r :: s, h, hc => by
    have ej : Str.join (Str.ofString "\n") (q :: r :: s) = q ++ Str.ofString "\n" ++ Str.join (Str.ofString "\n") (r :: s) := rfl
    rw [ej, Str.cps_append, Str.cps_append, Array.toList_append, Array.toList_append]
    rcases List.mem_cons.mp h with rfl | h
    · simp only [List.mem_append]; exact .inl (.inl hc)
    · simp only [List.mem_append]; exact .inr (mem_join h hc)
theorem parts_sg {x : Str} (h : ∀ c ∈ x.cps.toList, Sg c) : ∀ p ∈ Txt.split x (Str.ofString "\n"), ∀ c ∈ p.cps.toList, 32 ≤ c ∧ c ≤ 126 := fun p hp c hc => by
  have hf := StrLaws.split_free x 10
  rw [← nl_one] at hf
  have hx := mem_join hp hc
  rw [StrLaws.join_split] at hx
  rcases h c hx with rfl | h
  · exact absurd hc (hf p hp)
  · exact h
noncomputable def rowsT (x : Str) : List (List Str) := (Txt.split x (Str.ofString "\n")).map Txt.words
theorem parted_eq {x : Str} (h : ∀ c ∈ x.cps.toList, Sg c) : pdone (x.cps.toList.foldl pst p0) = rowsT x := by
  have := join_fold (Txt.split x (Str.ofString "\n")) [] split_ne (parts_sg h)
  rw [StrLaws.join_split, List.nil_append] at this
  exact this
end FL
namespace FL
open PySem PySem.Spec PyProof.Rows L2 L3
noncomputable def spNl : Str := Str.ofString " \n"
theorem occ_sp : ∀ c : Nat, c < 128 → (Builtin.Str.occurrences spNl ⟨#[c]⟩ 0 spNl.length 1).isEmpty = !(decide (c = 32) || decide (c = 10)) := by decide +kernel
theorem in_sp {c : Nat} (hc : c < 128) : inD false (.str ⟨#[c]⟩) (.str (Str.ofString " \n")) = some (.bl (decide (c = 32) || decide (c = 10))) := by
  show some (D.bl (xorB false (!(Builtin.Str.occurrences spNl ⟨#[c]⟩ 0 spNl.length 1).isEmpty))) = _
  rw [occ_sp c hc, Bool.not_not]
  rfl
theorem sg_lt {c : Nat} (h : Sg c) : c < 128 := by unfold Sg at h; omega
theorem eq_one {c d : Nat} : ((⟨#[c]⟩ : Str) = ⟨#[d]⟩) ↔ c = d := by
  constructor
  · intro e
    have := congrArg (fun s : Str => s.cps.toList) e
    simpa using this
  · rintro rfl; rfl
theorem gb_split {ra rb : R} {S : Sto} {x y : Str} {kk : R → Sto → Prop} (ha : ra.peek S = some (.str x)) (hb : rb.peek S = some (.str y)) (hc : (y.length == 0) = false ∧ x.length ≤ 1000000) (h : kk (.val (.own (sL (Txt.split x y)))) S) : Gb (gSplit ra rb S) kk := by
  unfold gSplit
  rw [ha, hb]
  dsimp only
  rw [if_pos hc]
  simpa using h
theorem wb_words {fo : FE} {S : Sto} {Q : R → Sto → Prop} {X : Ex → Sto → Prop} : Wb (fWords fo) S Q X = Wb fo S (fun ro S1 => Ob (ro.peek S1) fun d => ∃ x, d = .str x ∧ x.length ≤ 1000000 ∧ Q (.val (.own (sL (Txt.words x)))) S1) X := by
  unfold fWords
  rw [wb_bind]
  refine wb_ext fun ro S1 => ?_
  unfold Wb
  cases e : ro.peek S1 with
  | none => simp [e]
  | some d =>
    cases d with
    | str x => by_cases hc : x.length ≤ 1000000 <;> simp [e, hc]
    | _ => simp [e]
noncomputable abbrev rwL (ps : List (List Str)) : List SV := ps.map fun ws => .own (sL ws)
noncomputable def rwD (ws : List Str) : D := .lst (ws.map D.str)
theorem pkR : ∀ (ps : List (List Str)), peeks (ps.map fun ws => SV.own (sL ws)) = some (ps.map rwD)
  | [] => rfl
  | ws :: ps => by
    have e1 : (SV.own (sL ws)).peek = some (rwD ws) := by
      have : peeks (sL ws) = some (ws.map D.str) := peeks_mapf (f := D.str)
      show (peeks (sL ws)).map D.lst = _
      rw [this]; rfl
    rw [List.map_cons, peeks, e1, pkR ps]
    rfl
section
variable {x : Str} {μ : List SV} {Q : SV → List SV → Prop} {X : Ex → List SV → Prop}
theorem rows_ok (hl : x.length ≤ 100000) (h : Q (.own (rwL (rowsT x))) μ) : Wf F_rows_of [.dat (.str x)] μ Q X := by
  have hw := split_weight x (Str.ofString "\n") (by decide +kernel)
  have pl : (Txt.split x (Str.ofString "\n")).length ≤ x.length + 1 := by omega
  unfold F_rows_of fb_rows_of
  simp [wf_run]
  refine gb_split (x := x) (y := Str.ofString "\n") rfl rfl ⟨by decide +kernel, by omega⟩ ?_
  have pk : peeks (sL (Txt.split x (Str.ofString "\n"))) = some ((Txt.split x (Str.ofString "\n")).map D.str) := peeks_mapf (f := D.str)
  simp [pk]
  refine ctL_map (xs := Txt.split x (Str.ofString "\n")) (e := D.str) (fun p => .own (sL (Txt.words p))) (by omega) (fun p hp => ?_) ?_
  · have := part_short hp
    simp [wb_words]
    omega
  · simp
    have e : rwL (rowsT x) = (Txt.split x (Str.ofString "\n")).map fun p => SV.own (sL (Txt.words p)) := by
      show ((Txt.split x (Str.ofString "\n")).map Txt.words).map (fun ws => SV.own (sL ws)) = _
      rw [List.map_map]; rfl
    rw [e] at h
    simpa using h
noncomputable def paT1 : FS := (fSeq (fFor (.nm 3) (fItems (fBin gAdd (fVar 0) (fC (.str "\n")))) lb__law_parted_50c_1)
    (fRet (fSl (fFrz (fVar 1)) none (some (fNeg (fC (.int 1)))))))
theorem paT_eq : fb__law_parted_50c = (fSeq (fPar [1, 2] (fCons (fLst (fCons (fLst fNil) fNil)) (fCons (fFrz (fC (.str ""))) fNil)))
    paT1) := rfl
noncomputable def paS (x : Str) (s : PS) (y3 : Option SV) (μ : List SV) : Sto := ⟨[some (.dat (.str x)), some (.own (rwL (s.1 ++ [s.2.1]))), some (.dat (.str s.2.2)), y3], μ⟩
theorem paL_ok {s : PS} {c : Nat} {P : SO → Prop} (hc : Sg c) (h1 : s.1.length ≤ 200000) (h2 : s.2.1.length ≤ 200000) (h3 : s.2.2.length ≤ 200000) (h : ∀ y3, P (.nx (paS x (pst s c) y3 μ))) : Ws lb__law_parted_50c_1 (paS x s (some (.dat (.str ⟨#[c]⟩))) μ) P := by
  unfold lb__law_parted_50c_1 paS
  have e10 : (⟨#[c]⟩ : Str) = Str.ofString "\n" ↔ c = 10 := by rw [nl_one]; exact eq_one
  simp [in_sp (sg_lt hc)]
  have one : (⟨#[c]⟩ : Str).length = 1 := rfl
  cases q : (decide (c = 32) || decide (c = 10))
  · simp at q
    simp [e10, q.2]
    have := h (some (.dat (.str ⟨#[c]⟩)))
    unfold pst at this
    rw [if_neg q.2, if_neg q.1] at this
    refine ⟨by rw [one]; omega, ?_⟩
    simpa [paS] using this
  · simp [e10]
    have hh := h (some (.dat (.str ⟨#[c]⟩)))
    have en : Str.empty = Str.ofString "" := by decide +kernel
    by_cases qc : c = 10
    · unfold pst at hh
      rw [if_pos qc] at hh
      refine ⟨fun z => ⟨fun _ => ?_, fun z => absurd qc z⟩, fun z => ⟨by omega, fun _ => ?_, fun z => absurd qc z⟩⟩
      · unfold addw at hh
        rw [if_pos (by rw [z]; rfl), en] at hh
        exact ⟨by omega, by simpa [paS] using hh⟩
      · have := str_one z
        unfold addw at hh
        rw [if_neg (by omega), en] at hh
        exact ⟨by omega, by simpa [paS] using hh⟩
    · have q32 : c = 32 := by simp at q; omega
      unfold pst at hh
      rw [if_neg qc, if_pos q32] at hh
      refine ⟨fun z => ⟨fun z => absurd z qc, fun _ => ?_⟩, fun z => ⟨by omega, fun z => absurd z qc, fun _ => ?_⟩⟩
      · unfold addw at hh
        rw [if_pos (by rw [z]; rfl), en] at hh
        simpa [paS] using hh
      · have := str_one z
        unfold addw at hh
        rw [if_neg (by omega), en] at hh
        simpa [paS] using hh
theorem pst_le {s : PS} {c k : Nat} (h : s.1.length ≤ k ∧ s.2.1.length ≤ k ∧ s.2.2.length ≤ k) : (pst s c).1.length ≤ k + 1 ∧ (pst s c).2.1.length ≤ k + 1 ∧ (pst s c).2.2.length ≤ k + 1 := by
  have ea : (addw s.2.1 s.2.2).length ≤ k + 1 := by unfold addw; split <;> first | omega | (simp; omega)
  have e0 : Str.empty.length = 0 := rfl
  unfold pst
  split
  · exact ⟨by simp; omega, by simp, by rw [e0]; omega⟩
  · split
    · exact ⟨by dsimp only; omega, ea, by rw [e0]; omega⟩
    · refine ⟨by dsimp only; omega, by dsimp only; omega, ?_⟩
      show (s.2.2 ++ (⟨#[c]⟩ : Str)).length ≤ _
      rw [Str.length_append]
      have : (⟨#[c]⟩ : Str).length = 1 := rfl
      omega
theorem fold_pst_le (cs : List Nat) : ∀ (s : PS) (k : Nat), (s.1.length ≤ k ∧ s.2.1.length ≤ k ∧ s.2.2.length ≤ k) → (cs.foldl pst s).1.length ≤ k + cs.length ∧ (cs.foldl pst s).2.1.length ≤ k + cs.length ∧ (cs.foldl pst s).2.2.length ≤ k + cs.length := by
  induction cs with
  | nil => exact fun s k h => h
  | cons c cs ih =>
    intro s k h
    have := ih (pst s c) (k + 1) (pst_le h)
    rw [List.foldl_cons, List.length_cons]
    omega
theorem parted_ok (hl : x.length ≤ 100000) (hs : ∀ c ∈ x.cps.toList, Sg c) (h : Q (.own (((rowsT x).map rwD).map SV.dat)) μ) : Wf F__law_parted_50c [.dat (.str x)] μ Q X := by
  have sz := str_len (x := x)
  unfold F__law_parted_50c
  rw [paT_eq]
  generalize eT : paT1 = T
  simp [wf_run]
  subst eT
  unfold paT1
  generalize eL : lb__law_parted_50c_1 = L
  simp
  refine ⟨by have : (Str.ofString "\n").length = 1 := by decide +kernel
             omega, ?_⟩
  have es : L3.signs (x ++ Str.ofString "\n") = (x.cps.toList ++ [10]).map fun c => D.str ⟨#[c]⟩ := by
    have e10 : (Str.ofString "\n").cps.toList = [10] := by decide +kernel
    show ((x ++ Str.ofString "\n").cps.toList.map fun c => D.str ⟨#[c]⟩) = _
    rw [Str.cps_append, Array.toList_append, e10]
  rw [es]
  subst eL
  refine forL_ind (xs := x.cps.toList ++ [10]) (e := fun c => D.str ⟨#[c]⟩) (fun pre S => ∃ y3, S = paS x (pre.foldl pst p0) y3 μ) ⟨none, rfl⟩ (fun pre c post S e hI => ?_) (fun S hI => ?_)
  · obtain ⟨y3, rfl⟩ := hI
    have hc : Sg c := by
      have : c ∈ x.cps.toList ++ [10] := by rw [e]; simp
      rcases List.mem_append.mp this with h | h
      · exact hs c h
      · rw [List.mem_singleton] at h; exact .inl h
    have hp : pre.length ≤ 100001 := by have := congrArg List.length e; simp only [List.length_append, List.length_cons, List.length_nil, sz] at this; omega
    have b := fold_pst_le pre p0 0 ⟨by decide, by decide, by decide⟩
    refine ⟨_, rfl, ?_⟩
    refine paL_ok (s := pre.foldl pst p0) hc (by omega) (by omega) (by omega) fun y3 => ?_
    rw [List.foldl_append]
    exact ⟨_, rfl⟩
  · obtain ⟨y3, rfl⟩ := hI
    have ef : (x.cps.toList ++ [10]).foldl pst p0 = (rowsT x, [], Str.empty) := by
      rw [List.foldl_append]
      show pst (x.cps.toList.foldl pst p0) 10 = _
      rw [← parted_eq hs]
      rfl
    rw [ef]
    unfold paS
    have e0 : rwD [] = D.lst [] := rfl
    simp [pkR]
    simpa using h
end
end FL
namespace FL
open PySem PySem.Spec PyProof.Rows L2 L3
noncomputable def Tx (x : Str) (n : Nat) : Prop := (∀ c ∈ x.cps.toList, Sg c) ∧ x.length ≤ n
theorem Tx.as {x : Str} {n : Nat} (h : Tx x n) : As x n := ⟨fun c hc => sg_lt (h.1 c hc), h.2⟩
theorem Tx.mono {x : Str} {n m : Nat} (h : Tx x n) (hn : n ≤ m) : Tx x m := ⟨h.1, Nat.le_trans h.2 hn⟩
theorem tx_one {c : Nat} (h : Sg c) : Tx ⟨#[c]⟩ 1 := ⟨fun d hd => by
  have hd : d = c := by simpa using hd
  subst hd; exact h, by show 1 ≤ 1; decide⟩
theorem tx_app {a b : Str} {n m : Nat} (ha : Tx a n) (hb : Tx b m) : Tx (a ++ b) (n + m) := by
  refine ⟨fun c hc => ?_, by rw [Str.length_append]; have := ha.2; have := hb.2; omega⟩
  rw [Str.cps_append, Array.toList_append, List.mem_append] at hc
  exact hc.elim (ha.1 c) (hb.1 c)
theorem join_mem {ys : List Str} {c : Nat} (h : c ∈ (Txt.join (Str.ofString "") ys).cps.toList) : ∃ y ∈ ys, c ∈ y.cps.toList := by
  cases ys with
  | nil => exact absurd h (by simp [Txt.join, Builtin.Str.glued, Str.empty])
  | cons y ys =>
    rcases glued_mem (Str.ofString "") ys y.cps c h with h1 | h1 | ⟨q, hq, h1⟩
    · exact ⟨y, by simp, h1⟩
    · have e0 : (Str.ofString "").cps.toList = [] := by decide
      rw [e0] at h1; cases h1
    · exact ⟨q, by simp [hq], h1⟩
theorem tx_join {ys : List Str} (h : ∀ y ∈ ys, y.length = 1 ∧ Tx y 1) : Tx (Txt.join (Str.ofString "") ys) ys.length := by
  refine ⟨fun c hc => ?_, Nat.le_of_eq (join_len fun y hy => (h y hy).1)⟩
  obtain ⟨y, hy, hcy⟩ := join_mem hc
  exact (h y hy).2.1 c hcy
noncomputable def allSigns : Str := Str.ofString "abcdefghijklmnopqrstuvwxyzABCDEFGHIJKLMNOPQRSTUVWXYZ0123456789 !\"#$&'()*+,-./:;<=>?\x40[\\]^_`{|}~\n"
theorem signs_ok : allSigns.cps.toList.length = allSigns.length ∧ 1 ≤ allSigns.length ∧ allSigns.length ≤ 200 ∧ (allSigns.cps.toList.all fun c => decide (c = 10 ∨ (32 ≤ c ∧ c ≤ 126))) = true := by decide +kernel
theorem signs_sg : ∀ c ∈ allSigns.cps.toList, Sg c := fun c hc => by
  have := List.all_eq_true.mp signs_ok.2.2.2 c hc
  rw [decide_eq_true_iff] at this
  exact this
theorem figs10 : fg10.cps.toList.length = 10 ∧ fg10.length = 10 ∧ (fg10.cps.toList.all fun c => decide (48 ≤ c ∧ c ≤ 57)) = true := by decide +kernel
section
variable {B : Int} {x : SV} {Q : SV → List SV → Prop} {X : Ex → List SV → Prop}
theorem sign_ok (hx : Dr B x) (hB : B < 2 ^ 40) (h : ∀ c x', Sg c → Dr (B + 1) x' → Q (.dat (.str ⟨#[c]⟩)) [x']) : Wf F__law_sign [.cell 0] [x] Q X := by
  obtain ⟨s1, s2, s3, s4⟩ := signs_ok
  have sg := signs_sg
  unfold F__law_sign fb__law_sign
  simp only [show (Str.ofString "abcdefghijklmnopqrstuvwxyzABCDEFGHIJKLMNOPQRSTUVWXYZ0123456789 !\"#$&'()*+,-./:;<=>?\x40[\\]^_`{|}~\n") = allSigns from rfl]
  generalize allSigns = A at s1 s2 s3 sg
  simp [wf_run]
  refine ⟨by omega, next_ok hx (by omega) ⟨by omega, by omega⟩ fun r x1 a1 b1 d1 => ?_⟩
  simp
  refine ⟨by omega, ob_at a1 (by rw [s1]; exact b1) fun c hc => ?_⟩
  simp
  exact h c x1 (sg c hc) d1
noncomputable def ltxT4 : FS := (fRet (fM1 (g2 dJoin) (fC (.str "")) (fVar 3)))
noncomputable def ltxT3 : FS := (fSeq (fIf (fAnd (fTest (fBin (g2 dEq) (fGo F__law_next [] (fCons (fVar 0) (fCons (fC (.int 3)) fNil))) (fC (.int 0)))) (fTest (fBin gGt (fVar 1) (fC (.int 0))))) (fStore (fVar 3) (fGo F__law_next [] (fCons (fVar 0) (fCons (fVar 1) fNil))) (fGo F__law_sign [] (fCons (fVar 0) fNil))) fNext)
    ltxT4)
noncomputable def ltxT2 : FS := (fSeq (fSet 3 (fComp (.nm 4) (fRange range1 (fCons (fVar 1) fNil)) fYes (fBin gIx (fVar 2) (fGo F__law_next [] (fCons (fVar 0) (fCons (fC (.int 26)) fNil)))) [4]))
    ltxT3)
noncomputable def ltxT1 : FS := (fSeq (fSet 2 (fFrz (fC (.str "abcdefghijklmnopqrstuvwxyz"))))
    ltxT2)
theorem ltxT_eq : fb__law_text = (fSeq (fSet 1 (fFrz (fBin gIx (fLst (fCons (fBin gAdd (fC (.int 1)) (fGo F__law_next [] (fCons (fVar 0) (fCons (fC (.int 3)) fNil)))) (fCons (fC (.int 8)) (fCons (fC (.int 9)) (fCons (fGo F__law_next [] (fCons (fVar 0) (fCons (fC (.int 12)) fNil))) (fCons (fC (.int 7)) fNil)))))) (fGo F__law_next [] (fCons (fVar 0) (fCons (fC (.int 5)) fNil))))))
    ltxT1) := rfl
noncomputable def One (y : Str) : Prop := y.length = 1 ∧ Tx y 1
theorem one_of {c : Nat} (h : Sg c) : One ⟨#[c]⟩ := ⟨rfl, tx_one h⟩
theorem sum_one1 {ys : List Str} (h : ∀ y ∈ ys, One y) : (ys.map (·.length)).sum = ys.length := by
  induction ys with
  | nil => rfl
  | cons y ys ih =>
    rw [List.map_cons, List.sum_cons, ih fun z hz => h z (by simp [hz]), (h y (by simp)).1, List.length_cons]; omega
theorem ltxT4_ok {ys : List Str} {y1 y2 : Option SV} {n : Nat} (hy : ∀ y ∈ ys, One y) (hn : ys.length ≤ n) (hn2 : n ≤ 1000) (h : ∀ t, Tx t n → Q (.dat (.str t)) [x]) : Ws ltxT4 ⟨[some (.cell 0), y1, y2, some (.own (sL ys)), none], [x]⟩ (retP Q X) := by
  have e1 := sum_one1 hy
  have := h _ ((tx_join hy).mono hn)
  unfold ltxT4
  simp [e1, show (Str.ofString "").length = 0 by decide]
  exact ⟨by omega, this⟩
theorem ltxT3_ok {ys : List Str} {m : Int} {y2 : Option SV} (hx : Dr B x) (hB : B < 2 ^ 39) (hy : ∀ y ∈ ys, One y) (hm : (ys.length : Int) = m) (hm2 : m ≤ 11) (h : ∀ t x', Tx t 11 → Dr (B + 3) x' → Q (.dat (.str t)) [x']) : Ws ltxT3 ⟨[some (.cell 0), some (.dat (.int m)), y2, some (.own (sL ys)), none], [x]⟩ (retP Q X) := by
  unfold ltxT3
  generalize eT : ltxT4 = T
  simp
  refine next_ok hx (by omega) (by decide) fun r1 x1 a1 b1 d1 => ?_
  simp
  have go : ∀ (ys : List Str) (x' : SV), (∀ y ∈ ys, One y) → (ys.length : Int) = m → Dr (B + 3) x' → Ws T ⟨[some (.cell 0), some (.dat (.int m)), y2, some (.own (sL ys)), none], [x']⟩ (retP Q X) := fun ys x' hy hm d => by
    subst eT
    exact ltxT4_ok (n := 11) hy (by omega) (by decide) fun t ht => h t x' ht d
  refine ⟨fun _ => ⟨fun h0 => ?_, fun _ => go ys x1 hy hm (d1.up (by omega))⟩, fun _ => go ys x1 hy hm (d1.up (by omega))⟩
  refine sign_ok d1 (by omega) fun c x2 hc d2 => ?_
  simp
  refine next_ok d2 (by omega) ⟨by omega, by omega⟩ fun r3 x3 a3 b3 d3 => ?_
  obtain ⟨j, rfl⟩ := Int.eq_ofNat_of_zero_le a3
  have e0 : ixN ys.length (j : Int) = some j := by rw [ixN_in (by omega) (by omega)]; simp
  simp [e0]
  have := go (ys.set j ⟨#[c]⟩) x3 (fun y hyy => by
    rcases List.mem_or_eq_of_mem_set hyy with hyy | rfl
    · exact hy y hyy
    · exact one_of hc) (by simpa using hm) (d3.up (by omega))
  simpa [List.map_set] using this
theorem text_ok (hx : Dr B x) (hB : B < 2 ^ 38) (h : ∀ t x', Tx t 12 → Dr (B + 30) x' → Q (.dat (.str t)) [x']) : Wf F__law_text [.cell 0] [x] Q X := by
  unfold F__law_text
  rw [ltxT_eq]
  generalize eT : ltxT1 = T
  simp [wf_run]
  refine next_ok hx (by omega) (by decide) fun r1 x1 a1 b1 d1 => ?_
  simp
  refine next_ok d1 (by omega) (by decide) fun r2 x2 a2 b2 d2 => ?_
  simp
  refine next_ok d2 (by omega) (by decide) fun r3 x3 a3 b3 d3 => ?_
  simp
  obtain ⟨m, hm, em⟩ : ∃ m : Int, (0 ≤ m ∧ m ≤ 11) ∧ ∀ j : Nat, (j : Int) = r3 → ([SV.dat (.int (1 + r1)), .dat (.int 8), .dat (.int 9), .dat (.int r2), .dat (.int 7)] : List SV)[j]? = some (.dat (.int m)) := by
    have r5 : r3 = 0 ∨ r3 = 1 ∨ r3 = 2 ∨ r3 = 3 ∨ r3 = 4 := by omega
    rcases r5 with rfl | rfl | rfl | rfl | rfl
    · exact ⟨1 + r1, by omega, fun j hj => by obtain rfl : j = 0 := by omega
                                              rfl⟩
    · exact ⟨8, by omega, fun j hj => by obtain rfl : j = 1 := by omega
                                         rfl⟩
    · exact ⟨9, by omega, fun j hj => by obtain rfl : j = 2 := by omega
                                         rfl⟩
    · exact ⟨r2, by omega, fun j hj => by obtain rfl : j = 3 := by omega
                                          rfl⟩
    · exact ⟨7, by omega, fun j hj => by obtain rfl : j = 4 := by omega
                                         rfl⟩
  rw [ixN_in a3 (by omega)]
  have em := em r3.toNat (by omega)
  simp [em, kidR]
  subst eT
  unfold ltxT1
  generalize eT : ltxT2 = T
  simp
  subst eT
  unfold ltxT2
  generalize eT : ltxT3 = T
  simp
  refine ⟨small62_of (by omega) (by omega), ?_⟩
  refine ct_ind (fun i acc μ => ∃ ys x', acc = sL ys ∧ ys.length = i ∧ (∀ y ∈ ys, One y) ∧ μ = [x'] ∧ Dr (B + 3 + (i : Int)) x') (by rw [range_len]; omega)
      ⟨[], x3, rfl, rfl, by simp, rfl, by simpa [Int.add_assoc] using d3⟩ (fun i d acc μ hd hI => ?_) (fun acc μ hI => ?_)
  · obtain ⟨ys, x4, rfl, rfl, hys, rfl, d4⟩ := hI
    have hi := (List.getElem?_eq_some_iff.mp hd).1
    rw [range_len] at hi
    simp
    refine next_ok d4 (by omega) (by decide) fun r x5 a b d5 => ?_
    simp [letters_ok.2.2]
    refine ob_at a (by rw [letters_ok.1]; exact b) fun c hc => ?_
    have hc2 := letters_lo c hc
    simp
    refine ⟨ys ++ [⟨#[c]⟩], by simp, by simp, fun y hy => ?_, d5.up (by omega)⟩
    rcases List.mem_append.mp hy with hy | hy
    · exact hys y hy
    · rw [List.mem_singleton.mp hy]; exact one_of (.inr (by omega))
  · obtain ⟨ys, x4, rfl, hyl, hys, rfl, d4⟩ := hI
    rw [range_len] at hyl d4
    simp
    subst eT
    exact ltxT3_ok d4 (by omega) hys (by omega) hm.2 fun t x' ht d' => h t x' (ht.mono (by decide)) (d'.up (by omega))
end
end FL
namespace FL
open PySem PySem.Spec PyProof.Rows L2 L3
noncomputable def lfgT4 : FS := (fRet (fVar 2))
noncomputable def lfgT3 : FS := (fSeq (fIf (fTest (fBin (g2 dEq) (fGo F__law_next [] (fCons (fVar 0) (fCons (fC (.int 6)) fNil))) (fC (.int 0)))) (fSeq (fSet 3 (fFrz (fGo F__law_next [] (fCons (fVar 0) (fCons (fBin gAdd (fB (gD lenD) (fCons (fVar 2) fNil)) (fC (.int 1))) fNil)))))
    (fSet 2 (fFrz (fBin gAdd (fBin gAdd (fSl (fVar 2) none (some (fVar 3))) (fGo F__law_sign [] (fCons (fVar 0) fNil))) (fSl (fVar 2) (some (fVar 3)) none))))) fNext)
    lfgT4)
noncomputable def lfgT2 : FS := (fSeq (fSet 2 (fFrz (fBin gAdd (fBin gIx (fLst (fCons (fC (.str "")) (fCons (fC (.str "")) (fCons (fC (.str "")) (fCons (fC (.str "0")) (fCons (fC (.str "-")) (fCons (fC (.str "9999")) (fCons (fC (.str "1000")) fNil)))))))) (fGo F__law_next [] (fCons (fVar 0) (fCons (fC (.int 7)) fNil)))) (fVar 2))))
    lfgT3)
noncomputable def lfgT1 : FS := (fSeq (fSet 2 (fFrz (fM1 (g2 dJoin) (fC (.str "")) (fComp (.nm 4) (fRange range1 (fCons (fVar 1) fNil)) fYes (fBin gIx (fC (.str "0123456789")) (fGo F__law_next [] (fCons (fVar 0) (fCons (fC (.int 10)) fNil)))) [4]))))
    lfgT2)
theorem lfgT_eq : fb__law_figures = (fSeq (fSet 1 (fFrz (fBin gIx (fLst (fCons (fC (.int 1)) (fCons (fC (.int 2)) (fCons (fC (.int 3)) (fCons (fC (.int 4)) (fCons (fC (.int 5)) (fCons (fC (.int 5)) (fCons (fC (.int 6)) (fCons (fGo F__law_next [] (fCons (fVar 0) (fCons (fC (.int 8)) fNil))) fNil))))))))) (fGo F__law_next [] (fCons (fVar 0) (fCons (fC (.int 8)) fNil))))))
    lfgT1) := rfl
theorem tx_dec {x : Str} {n : Nat} (h : (x.cps.toList.all fun c => decide (c = 10 ∨ (32 ≤ c ∧ c ≤ 126))) = true ∧ x.length ≤ n) : Tx x n := ⟨fun c hc => by
  have := List.all_eq_true.mp h.1 c hc
  rw [decide_eq_true_iff] at this
  exact this, h.2⟩
theorem cutS_at {x : Str} {j : Nat} : cutS x none (some (j : Int)) ++ cutS x (some (j : Int)) none = x ∧ True := by
  refine ⟨?_, trivial⟩
  have sz := str_len (x := x)
  apply Str.ext'
  apply Array.toList_inj.mp
  rw [Str.cps_append, Array.toList_append]
  unfold cutS
  simp only [HT.sIx_none, HT.sIx_nat, List.toList_toArray]
  rw [List.drop_zero, Nat.sub_zero, List.take_of_length_le (i := x.length - min j x.length) (Nat.le_of_eq (by rw [List.length_drop, sz]))]
  exact List.take_append_drop _ _
noncomputable def heads : List Str := [Str.ofString "", Str.ofString "", Str.ofString "", Str.ofString "0", Str.ofString "-", Str.ofString "9999", Str.ofString "1000"]
theorem heads_ok : ∀ y ∈ heads, Tx y 4 := fun y hy => by
  simp only [heads, List.mem_cons, List.not_mem_nil, or_false] at hy
  rcases hy with rfl | rfl | rfl | rfl | rfl | rfl | rfl <;> exact tx_dec (by decide +kernel)
section
variable {B : Int} {x : SV} {Q : SV → List SV → Prop} {X : Ex → List SV → Prop} {t : Str} {y1 : Option SV}
theorem lfgT3_ok (hx : Dr B x) (hB : B < 2 ^ 39) (ht : Tx t 11) (h : ∀ t x', Tx t 12 → Dr (B + 3) x' → Q (.dat (.str t)) [x']) : Ws lfgT3 ⟨[some (.cell 0), y1, some (.dat (.str t)), none, none], [x]⟩ (retP Q X) := by
  have hl := ht.2
  unfold lfgT3 lfgT4
  simp
  refine next_ok hx (by omega) (by decide) fun r1 x1 a1 b1 d1 => ?_
  simp
  refine ⟨fun _ => ⟨by omega, ?_⟩, fun _ => h t x1 (ht.mono (by decide)) (d1.up (by omega))⟩
  refine next_ok d1 (by omega) ⟨by omega, by omega⟩ fun r2 x2 a2 b2 d2 => ?_
  simp
  obtain ⟨j, rfl⟩ := Int.eq_ofNat_of_zero_le a2
  obtain ⟨c1, c2⟩ := cutS_at (x := t) (j := j)
  have l1 : (cutS t none (some (j : Int))).length + (cutS t (some (j : Int)) none).length = t.length := by
    have := congrArg Str.length c1
    rwa [Str.length_append] at this
  refine ⟨by omega, sign_ok d2 (by omega) fun c x3 hc d3 => ?_⟩
  have one : (⟨#[c]⟩ : Str).length = 1 := rfl
  simp
  refine ⟨by rw [one]; omega, by omega, by rw [Str.length_append, one]; omega, ?_⟩
  refine h _ x3 ⟨fun d hd => ?_, by rw [Str.length_append, Str.length_append, one]; omega⟩ (d3.up (by omega))
  rw [Str.cps_append, Str.cps_append, Array.toList_append, Array.toList_append, List.mem_append, List.mem_append] at hd
  have hm : ∀ d, d ∈ (cutS t none (some (j : Int))).cps.toList ∨ d ∈ (cutS t (some (j : Int)) none).cps.toList → Sg d := fun d hd => by
    refine ht.1 d ?_
    rw [← c1, Str.cps_append, Array.toList_append, List.mem_append]
    exact hd
  rcases hd with (hd | hd) | hd
  · exact hm d (.inl hd)
  · have hd : d = c := by simpa using hd
    subst hd; exact hc
  · exact hm d (.inr hd)
theorem lfgT2_ok (hx : Dr B x) (hB : B < 2 ^ 38) (ht : Tx t 7) (h : ∀ t x', Tx t 12 → Dr (B + 4) x' → Q (.dat (.str t)) [x']) : Ws lfgT2 ⟨[some (.cell 0), y1, some (.dat (.str t)), none, none], [x]⟩ (retP Q X) := by
  have hl := ht.2
  have hh := heads_ok
  have e : ([SV.dat (.str (Str.ofString "")), .dat (.str (Str.ofString "")), .dat (.str (Str.ofString "")), .dat (.str (Str.ofString "0")), .dat (.str (Str.ofString "-")), .dat (.str (Str.ofString "9999")), .dat (.str (Str.ofString "1000"))] : List SV) = sL heads := rfl
  have e7 : heads.length = 7 := rfl
  unfold lfgT2
  generalize eT : lfgT3 = T
  simp
  rw [e]
  generalize heads = L at hh e7
  refine next_ok hx (by omega) (by decide) fun r1 x1 a1 b1 d1 => ?_
  obtain ⟨j, rfl⟩ := Int.eq_ofNat_of_zero_le a1
  have hj : j < L.length := by omega
  have e0 : ixN L.length (j : Int) = some j := by rw [ixN_in (by omega) (by omega)]; simp
  simp [e0, hj, kidR]
  have hL := hh L[j] (List.getElem_mem hj)
  have hL2 := hL.2
  subst eT
  exact ⟨by omega, lfgT3_ok d1 (by omega) ((tx_app hL ht).mono (by decide)) fun t x' ht d' => h t x' ht (d'.up (by omega))⟩
theorem figures_ok (hx : Dr B x) (hB : B < 2 ^ 37) (h : ∀ t x', Tx t 12 → Dr (B + 30) x' → Q (.dat (.str t)) [x']) : Wf F__law_figures [.cell 0] [x] Q X := by
  unfold F__law_figures
  rw [lfgT_eq]
  generalize eT : lfgT1 = T
  simp [wf_run]
  refine next_ok hx (by omega) (by decide) fun r2 x2 a2 b2 d2 => ?_
  simp
  refine next_ok d2 (by omega) (by decide) fun r3 x3 a3 b3 d3 => ?_
  simp
  obtain ⟨m, hm, em⟩ : ∃ m : Int, (0 ≤ m ∧ m ≤ 7) ∧ ∀ j : Nat, (j : Int) = r3 → ([SV.dat (.int 1), .dat (.int 2), .dat (.int 3), .dat (.int 4), .dat (.int 5), .dat (.int 5), .dat (.int 6), .dat (.int r2)] : List SV)[j]? = some (.dat (.int m)) := by
    have r5 : r3 = 0 ∨ r3 = 1 ∨ r3 = 2 ∨ r3 = 3 ∨ r3 = 4 ∨ r3 = 5 ∨ r3 = 6 ∨ r3 = 7 := by omega
    rcases r5 with rfl | rfl | rfl | rfl | rfl | rfl | rfl | rfl
    · exact ⟨1, by omega, fun j hj => by obtain rfl : j = 0 := by omega
                                         rfl⟩
    · exact ⟨2, by omega, fun j hj => by obtain rfl : j = 1 := by omega
                                         rfl⟩
    · exact ⟨3, by omega, fun j hj => by obtain rfl : j = 2 := by omega
                                         rfl⟩
    · exact ⟨4, by omega, fun j hj => by obtain rfl : j = 3 := by omega
                                         rfl⟩
    · exact ⟨5, by omega, fun j hj => by obtain rfl : j = 4 := by omega
                                         rfl⟩
    · exact ⟨5, by omega, fun j hj => by obtain rfl : j = 5 := by omega
                                         rfl⟩
    · exact ⟨6, by omega, fun j hj => by obtain rfl : j = 6 := by omega
                                         rfl⟩
    · exact ⟨r2, by omega, fun j hj => by obtain rfl : j = 7 := by omega
                                          rfl⟩
  rw [ixN_in a3 (by omega)]
  have em := em r3.toNat (by omega)
  simp [em, kidR]
  subst eT
  unfold lfgT1
  generalize eT : lfgT2 = T
  simp
  refine ⟨small62_of (by omega) (by omega), ?_⟩
  refine ct_ind (fun i acc μ => ∃ ys x', acc = sL ys ∧ ys.length = i ∧ (∀ y ∈ ys, One y) ∧ μ = [x'] ∧ Dr (B + 2 + (i : Int)) x') (by rw [range_len]; omega)
      ⟨[], x3, rfl, rfl, by simp, rfl, by simpa [Int.add_assoc] using d3⟩ (fun i d acc μ hd hI => ?_) (fun acc μ hI => ?_)
  · obtain ⟨ys, x4, rfl, rfl, hys, rfl, d4⟩ := hI
    have hi := (List.getElem?_eq_some_iff.mp hd).1
    rw [range_len] at hi
    have f3 := figs10.2.2
    simp
    refine next_ok d4 (by omega) (by decide) fun r x5 a b d5 => ?_
    rw [show Str.ofString "0123456789" = fg10 from rfl]
    simp [figs10.2.1]
    refine ob_at a (by rw [figs10.1]; exact b) fun c hc => ?_
    have hc2 : 48 ≤ c ∧ c ≤ 57 := of_decide_eq_true (List.all_eq_true.mp f3 c hc)
    simp
    refine ⟨ys ++ [⟨#[c]⟩], by simp, by simp, fun y hy => ?_, d5.up (by omega)⟩
    rcases List.mem_append.mp hy with hy | hy
    · exact hys y hy
    · rw [List.mem_singleton.mp hy]; exact one_of (.inr (by omega))
  · obtain ⟨ys, x4, rfl, hyl, hys, rfl, d4⟩ := hI
    rw [range_len] at hyl d4
    have e1 := sum_one1 hys
    simp [e1, show (Str.ofString "").length = 0 by decide]
    subst eT
    exact ⟨by omega, lfgT2_ok d4 (by omega) ((tx_join hys).mono (by omega)) fun t x' ht d' => h t x' ht (d'.up (by omega))⟩
end
end FL
namespace FL
open PySem PySem.Spec PyProof.Rows L2 L3
noncomputable def rrT2 : FS := (fSeq (fFor (.nm 3) (fRange range1 (fCons (fC (.int 2)) fNil)) lb__law_rows_right_1)
    (fRet (fC (.bl true))))
noncomputable def rrT1 : FS := (fSeq (fSet 2 (fFrz (fM1 (g2 dJoin) (fC (.str "")) (fComp (.nm 3) (fRange range1 (fCons (fGo F__law_next [] (fCons (fVar 0) (fCons (fC (.int 40)) fNil))) fNil)) fYes (fBin gIx (fVar 1) (fGo F__law_next [] (fCons (fVar 0) (fCons (fC (.int 9)) fNil)))) [3]))))
    rrT2)
theorem rrT_eq : fb__law_rows_right = (fSeq (fSet 1 (fFrz (fLst (fCons (fGo F__law_sign [] (fCons (fVar 0) fNil)) (fCons (fC (.str "-")) (fCons (fC (.str "7")) (fCons (fC (.str " ")) (fCons (fC (.str "\n")) (fCons (fC (.str " ")) (fCons (fC (.str "(")) (fCons (fC (.str "\n")) (fCons (fGo F__law_sign [] (fCons (fVar 0) fNil)) fNil))))))))))))
    rrT1) := rfl
noncomputable def rlT2 : FS := (fSeq (fAppend (fBin gIx (fVar 4) (fGo F__law_next [] (fCons (fVar 0) (fCons (fB (gD lenD) (fCons (fVar 4) fNil)) fNil)))) (fC (.str "more")))
    (fAppend (fVar 4) (fC (.str "more"))))
noncomputable def rlT1 : FS := (fSeq (fIf (fOr (fNot (fTru (fIsi "list" (fVar 4)))) (fTest (fBin (g2 dNe) (fVar 4) (fGo F__law_parted_50c [] (fCons (fVar 2) fNil))))) (fRet (fC (.bl false))) fNext)
    rlT2)
theorem rlT_eq : lb__law_rows_right_1 = (fSeq (fSet 4 (fGo F_rows_of [] (fCons (fVar 2) fNil)))
    rlT1) := rfl
noncomputable def WSg (w : Str) : Prop := ∀ c ∈ w.cps.toList, Sg c
noncomputable def PSg (s : PS) : Prop := (∀ ws ∈ s.1, ∀ w ∈ ws, WSg w) ∧ (∀ w ∈ s.2.1, WSg w) ∧ WSg s.2.2
theorem wsg_empty : WSg Str.empty := fun c hc => by cases hc
theorem addw_sg {cur : List Str} {w : Str} (h1 : ∀ w ∈ cur, WSg w) (h2 : WSg w) : ∀ v ∈ addw cur w, WSg v := fun v hv => by
  unfold addw at hv
  split at hv
  · exact h1 v hv
  · rcases List.mem_append.mp hv with hv | hv
    · exact h1 v hv
    · rw [List.mem_singleton] at hv; subst hv; exact h2
theorem done_sg {s : PS} (h : PSg s) : ∀ ws ∈ pdone s, ∀ w ∈ ws, WSg w := fun ws hws => by
  unfold pdone at hws
  rcases List.mem_append.mp hws with hws | hws
  · exact h.1 ws hws
  · rw [List.mem_singleton] at hws; subst hws; exact addw_sg h.2.1 h.2.2
theorem pst_sg {s : PS} {c : Nat} (h : PSg s) (hc : Sg c) : PSg (pst s c) := by
  unfold pst
  split
  · exact ⟨done_sg h, fun w hw => (by cases hw), wsg_empty⟩
  · split
    · exact ⟨h.1, addw_sg h.2.1 h.2.2, wsg_empty⟩
    · refine ⟨h.1, h.2.1, fun d hd => ?_⟩
      have hd : d ∈ (s.2.2 ++ (⟨#[c]⟩ : Str)).cps.toList := hd
      rw [Str.cps_append, Array.toList_append, List.mem_append] at hd
      rcases hd with hd | hd
      · exact h.2.2 d hd
      · have hd : d = c := by simpa using hd
        subst hd; exact hc
theorem fold_sg : ∀ (cs : List Nat) (s : PS), PSg s → (∀ c ∈ cs, Sg c) → PSg (cs.foldl pst s)
  | [], _, h, _ => h
  | c :: cs, s, h, hs => fold_sg cs _ (pst_sg h (hs c (by simp))) fun d hd => hs d (by simp [hd])
theorem rows_sg {x : Str} (h : ∀ c ∈ x.cps.toList, Sg c) : ∀ ws ∈ rowsT x, ∀ w ∈ ws, WSg w := by
  rw [← parted_eq h]
  exact done_sg (fold_sg _ _ ⟨fun w hw => (by cases hw), fun w hw => (by cases hw), wsg_empty⟩ h)
theorem rwD_sm {ws : List Str} (h : ∀ w ∈ ws, WSg w) : (rwD ws).sm ∧ (rwD ws).dp ≤ 1 := by
  have l : ∀ w ∈ ws, PyData.canLay0 (.str w) = true := fun w hw => lay_iff.mpr fun c hc => by have := sg_lt (h w hw c hc); omega
  refine ⟨strs_sm l, ?_⟩
  show dpL (ws.map D.str) + 1 ≤ 1
  have := strs_dp (ys := ws)
  omega
theorem rws_eq {ps : List (List Str)} (h : ∀ ws ∈ ps, ∀ w ∈ ws, WSg w) : eqD (.lst (ps.map rwD)) (.lst (ps.map rwD)) = some true := by
  have s : smL (ps.map rwD) := smL_iff.mpr fun d hd => by
    obtain ⟨ws, hws, rfl⟩ := List.mem_map.mp hd
    exact (rwD_sm (h ws hws)).1
  have p : dpL (ps.map rwD) ≤ 1 := dpL_le fun d hd => by
    obtain ⟨ws, hws, rfl⟩ := List.mem_map.mp hd
    exact (rwD_sm (h ws hws)).2
  have s2 : D.sm (.lst (ps.map rwD)) := s
  rw [eqD_sm s2 s2 (by show dpL _ + 1 ≤ 64; omega) (by show dpL _ + 1 ≤ 64; omega), eqT_self s2]
section
variable {B : Int} {x : SV} {t : Str} {P : SO → Prop} {Q : SV → List SV → Prop} {X : Ex → List SV → Prop} {y1 y3 y4 : Option SV}
theorem rl_ok (hx : Dr B x) (hB : B < 2 ^ 39) (ht : Tx t 1000) (h : ∀ y4 x', Dr (B + 1) x' → P (.nx ⟨[some (.cell 0), y1, some (.dat (.str t)), y3, y4], [x']⟩)) : Ws lb__law_rows_right_1 ⟨[some (.cell 0), y1, some (.dat (.str t)), y3, y4], [x]⟩ P := by
  have hl := ht.2
  have es := rws_eq (rows_sg ht.1)
  have rl : (rowsT t).length ≤ 1001 := by
    have hw := split_weight t (Str.ofString "\n") (by decide +kernel)
    unfold rowsT
    rw [List.length_map]
    omega
  have r1 : 1 ≤ (rowsT t).length := by
    unfold rowsT
    rw [List.length_map]
    exact List.length_pos_iff.mpr split_ne
  rw [rlT_eq]
  generalize eT : rlT1 = T
  simp
  refine rows_ok (by omega) ?_
  simp
  subst eT
  unfold rlT1
  generalize eT : rlT2 = T
  simp [pkR]
  refine parted_ok (by omega) ht.1 ?_
  have es' := es
  simp [pkR, es]
  subst eT
  unfold rlT2
  simp [pkR]
  refine next_ok hx (by omega) ⟨by omega, by omega⟩ fun r x1 a1 b1 d1 => ?_
  obtain ⟨j, rfl⟩ := Int.eq_ofNat_of_zero_le a1
  have hj : j < (rowsT t).length := by omega
  have e0 : ixN (rowsT t).length (j : Int) = some j := by rw [ixN_in (by omega) (by omega)]; simp
  simp [e0, hj, kidR]
  have wl : (rowsT t)[j].length ≤ 2000 := by
    have hm : (rowsT t)[j] ∈ rowsT t := List.getElem_mem hj
    generalize (rowsT t)[j] = ws at hm
    unfold rowsT at hm
    obtain ⟨p, hp, rfl⟩ := List.mem_map.mp hm
    have h1 := part_short hp
    have h2 := StrLaws.words_weight p
    omega
  exact ⟨by omega, by omega, h _ _ d1⟩
theorem rrT2_ok {y3 : Option SV} (hx : Dr B x) (hB : B < 2 ^ 38) (ht : Tx t 1000) (h : ∀ x', Dr (B + 2) x' → Q (.dat (.bl true)) [x']) : Ws rrT2 ⟨[some (.cell 0), y1, some (.dat (.str t)), y3, none], [x]⟩ (retP Q X) := by
  unfold rrT2
  generalize eL : lb__law_rows_right_1 = L
  simp
  refine ⟨small62_of (by omega) (by omega), ?_⟩
  rw [show rangeL 0 2 1 = [.int 0, .int 1] from rfl]
  subst eL
  refine forF_cons ?_
  simp
  refine rl_ok hx (by omega) ht fun y4 x1 d1 => ?_
  refine forF_cons ?_
  simp
  refine rl_ok d1 (by omega) ht fun y4 x2 d2 => ?_
  refine forF_nil ?_
  simp
  exact h x2 (d2.up (by omega))
theorem rows_right_ok (hx : Dr B x) (hB : B < 2 ^ 37) (h : ∀ x', Dr (B + 60) x' → Q (.dat (.bl true)) [x']) : Wf F__law_rows_right [.cell 0] [x] Q X := by
  unfold F__law_rows_right
  rw [rrT_eq]
  generalize eT : rrT1 = T
  simp [wf_run]
  refine sign_ok hx (by omega) fun c1 x1 s1 d1 => ?_
  simp
  refine sign_ok d1 (by omega) fun c2 x2 s2 d2 => ?_
  simp
  have hs : ∀ y ∈ ([⟨#[c1]⟩, Str.ofString "-", Str.ofString "7", Str.ofString " ", Str.ofString "\n", Str.ofString " ", Str.ofString "(", Str.ofString "\n", ⟨#[c2]⟩] : List Str), One y := fun y hy => by
    simp only [List.mem_cons, List.not_mem_nil, or_false] at hy
    have dc : ∀ z : Str, (decide (z.length = 1) && ((z.cps.toList.all fun c => decide (c = 10 ∨ (32 ≤ c ∧ c ≤ 126))) && decide (z.length ≤ 1))) = true → One z := fun z hz => by
      simp only [Bool.and_eq_true, decide_eq_true_iff] at hz
      exact ⟨hz.1, tx_dec hz.2⟩
    rcases hy with rfl | rfl | rfl | rfl | rfl | rfl | rfl | rfl | rfl
    · exact one_of s1
    · exact dc _ (by decide +kernel)
    · exact dc _ (by decide +kernel)
    · exact dc _ (by decide +kernel)
    · exact dc _ (by decide +kernel)
    · exact dc _ (by decide +kernel)
    · exact dc _ (by decide +kernel)
    · exact dc _ (by decide +kernel)
    · exact one_of s2
  have el : ([D.str ⟨#[c1]⟩, D.str (Str.ofString "-"), D.str (Str.ofString "7"), D.str (Str.ofString " "), D.str (Str.ofString "\n"), D.str (Str.ofString " "), D.str (Str.ofString "("), D.str (Str.ofString "\n"), D.str ⟨#[c2]⟩] : List D) = ([⟨#[c1]⟩, Str.ofString "-", Str.ofString "7", Str.ofString " ", Str.ofString "\n", Str.ofString " ", Str.ofString "(", Str.ofString "\n", ⟨#[c2]⟩] : List Str).map D.str := rfl
  have l9 : ([⟨#[c1]⟩, Str.ofString "-", Str.ofString "7", Str.ofString " ", Str.ofString "\n", Str.ofString " ", Str.ofString "(", Str.ofString "\n", ⟨#[c2]⟩] : List Str).length = 9 := rfl
  rw [el]
  generalize ([⟨#[c1]⟩, Str.ofString "-", Str.ofString "7", Str.ofString " ", Str.ofString "\n", Str.ofString " ", Str.ofString "(", Str.ofString "\n", ⟨#[c2]⟩] : List Str) = L at hs l9
  subst eT
  unfold rrT1
  generalize eT : rrT2 = T
  simp
  refine next_ok d2 (by omega) (by decide) fun m x3 a3 b3 d3 => ?_
  simp
  refine ⟨small62_of (by omega) (by omega), ?_⟩
  refine ct_ind (fun i acc μ => ∃ ys x', acc = sL ys ∧ ys.length = i ∧ (∀ y ∈ ys, One y) ∧ μ = [x'] ∧ Dr (B + 3 + (i : Int)) x') (by rw [range_len]; omega)
      ⟨[], x3, rfl, rfl, by simp, rfl, by simpa [Int.add_assoc] using d3⟩ (fun i d acc μ hd hI => ?_) (fun acc μ hI => ?_)
  · obtain ⟨ys, x4, rfl, rfl, hys, rfl, d4⟩ := hI
    have hi := (List.getElem?_eq_some_iff.mp hd).1
    rw [range_len] at hi
    simp
    refine next_ok d4 (by omega) (by decide) fun r x5 a b d5 => ?_
    simp
    refine ob_at a (by rw [l9]; exact b) fun y hy => ?_
    simp
    refine ⟨ys ++ [y], by simp, by simp, fun z hz => ?_, d5.up (by omega)⟩
    rcases List.mem_append.mp hz with hz | hz
    · exact hys z hz
    · rw [List.mem_singleton.mp hz]; exact hs y hy
  · obtain ⟨ys, x4, rfl, hyl, hys, rfl, d4⟩ := hI
    rw [range_len] at hyl d4
    have e1 := sum_one1 hys
    simp [e1, show (Str.ofString "").length = 0 by decide]
    subst eT
    exact ⟨by omega, rrT2_ok d4 (by omega) ((tx_join hys).mono (by omega)) fun x' d' => h x' (d'.up (by omega))⟩
end
end FL
namespace FL
open PySem PySem.Spec PyProof.Rows L2 L3
noncomputable def nrT2 : FS := (fRet (fAndV (fBin (gIs false) (fGo F_number_in [.dat (.int 9999)] (fCons (fBin gAdd (fVar 1) (fC (.str "\n"))) fNil)) (fC .non)) (fBin (gIs false) (fGo F_number_in [.dat (.int 9999)] (fCons (fBin gAdd (fC (.str " ")) (fVar 1)) fNil)) (fC .non))))
noncomputable def nrT1 : FS := (fSeq (fFor (.nm 4) (fItems (fTup (fCons (fVar 1) (fCons (fVar 2) (fCons (fC (.str "")) (fCons (fC (.str "-")) (fCons (fC (.str "0")) (fCons (fC (.str "00")) (fCons (fC (.str "-1")) (fCons (fB (gD strID) (fCons (fVar 3) fNil)) (fCons (fB (gD strID) (fCons (fBin gAdd (fVar 3) (fC (.int 1))) fNil)) (fCons (fC (.str "9999")) (fCons (fC (.str "10000")) (fCons (fC (.str "99999")) (fCons (fBin (g2 dTimesS) (fC (.str "7")) (fC (.int 5000))) fNil))))))))))))))) lb__law_numbers_right_1)
    nrT2)
theorem nrT_eq : fb__law_numbers_right = (fSeq (fSet 3 (fFrz (fBin gIx (fLst (fCons (fGo F__law_next [] (fCons (fVar 0) (fCons (fC (.int 100000)) fNil))) (fCons (fC (.int 9999)) (fCons (fC (.int 99999)) (fCons (fC (.int 0)) (fCons (fGo F__law_next [] (fCons (fVar 0) (fCons (fC (.int 30)) fNil))) (fCons (fC (.int 10000)) fNil))))))) (fGo F__law_next [] (fCons (fVar 0) (fCons (fC (.int 6)) fNil))))))
    nrT1) := rfl
theorem as_str {i : Int} (h0 : 0 ≤ i) (h1 : i < 10 ^ 9) : As (toString i : String) 100 := by
  obtain ⟨m, rfl⟩ := Int.eq_ofNat_of_zero_le h0
  refine ⟨fun c hc => ?_, ?_⟩
  · have hc : c ∈ (PySem.Str.ofString (toString ((m : Nat) : Int))).cps.toList := hc
    rw [PySem.W.KIN.signs_num] at hc
    obtain ⟨ch, hch, e⟩ := List.mem_map.mp hc
    have r := PyProof.Rows.digit_range (Nat.isDigit_of_mem_toDigits (by decide) (by decide) hch)
    omega
  · have e := int_text_length_le10 (a := (m : Int)) (k := 10) (by decide) (by omega)
    show (PySem.Str.ofString (toString ((m : Nat) : Int))).length ≤ 100
    rw [PySem.ofString_length]
    omega
theorem reps_mem {x : Str} {c : Nat} : ∀ (n : Nat) (acc : Array Nat), c ∈ ((List.replicate n x.cps).foldl (· ++ ·) acc).toList → c ∈ acc.toList ∨ c ∈ x.cps.toList
  | 0, acc, h => .inl h
  | n + 1, acc, h => by
    rcases reps_mem n _ h with h | h
    · rw [Array.toList_append, List.mem_append] at h
      exact h
    · exact .inr h
theorem reps_tx {x : Str} {n m : Nat} (h : Tx x m) (n0 : n * m ≤ 100000) : Tx (repS x n) (n * m) := by
  refine ⟨fun c hc => ?_, ?_⟩
  · rcases reps_mem n #[] hc with h1 | h1
    · cases h1
    · exact h.1 c h1
  · have := size_reps x.cps n #[]
    show ((List.replicate n x.cps).foldl (· ++ ·) #[]).size ≤ _
    rw [this]
    have e : x.cps.size = x.length := rfl
    rw [e]
    have := Nat.mul_le_mul_left n h.2
    simp
    exact this
theorem bad_num {a b : Str} {c : Nat} {most : Int} (hc : c ∈ (a ++ b).cps.toList) (hn : fgC c = false) : numD (a ++ b) most = .non := by
  have : figs (a ++ b) = false := by
    rw [Bool.eq_false_iff]
    intro e
    have := List.all_eq_true.mp e c hc
    rw [hn] at this; cases this
  unfold numD okNum
  rw [this, Bool.false_and, Bool.and_false, if_neg (by simp)]
section
variable {B most : Int} {x : SV} {w t : Str} {Q : SV → List SV → Prop} {X : Ex → List SV → Prop} {μ : List SV} {P : SO → Prop}
theorem nrT2_ok {y3 y4 : Option SV} (hw : Tx w 12) (h : Q (.dat (.bl true)) μ) : Ws nrT2 ⟨[some (.cell 0), some (.dat (.str w)), some (.dat (.str t)), y3, y4], μ⟩ (retP Q X) := by
  have hl := hw.2
  have l1 : (Str.ofString "\n").length = 1 := by decide +kernel
  have l2 : (Str.ofString " ").length = 1 := by decide +kernel
  have t1 : Tx (Str.ofString "\n") 1 := tx_dec (by decide +kernel)
  have t2 : Tx (Str.ofString " ") 1 := tx_dec (by decide +kernel)
  have e1 : numD (w ++ Str.ofString "\n") 9999 = .non := bad_num (c := 10) (by
    rw [Str.cps_append, Array.toList_append, List.mem_append]
    exact .inr (by decide +kernel)) rfl
  have e2 : numD (Str.ofString " " ++ w) 9999 = .non := bad_num (c := 32) (by
    rw [Str.cps_append, Array.toList_append, List.mem_append]
    exact .inl (by decide +kernel)) rfl
  unfold nrT2
  simp
  refine ⟨by omega, num_ok ((tx_app hw t1).as.mono (by decide)) ?_⟩
  rw [e1]
  simp [SV.isN]
  refine ⟨by omega, num_ok ((tx_app t2 hw).as.mono (by decide)) ?_⟩
  rw [e2]
  simp [SV.isN]
  exact h
theorem nr_lb {y4 : Option SV} (ha : As t 100000) (h : P (.nx ⟨[some (.cell 0), some (.dat (.str w)), y4, some (.dat (.int most)), some (.dat (.str t))], μ⟩)) : Ws lb__law_numbers_right_1 ⟨[some (.cell 0), some (.dat (.str w)), y4, some (.dat (.int most)), some (.dat (.str t))], μ⟩ P := by
  unfold lb__law_numbers_right_1
  simp
  refine num_ok ha ?_
  simp
  refine read_ok ha ?_
  simp
  refine same_ok ?_
  simp
  refine num_ok ha ?_
  simp
  refine read_ok ha ?_
  simp
  refine same_ok ?_
  simp
  exact h
theorem nrT1_ok (hm : 0 ≤ most ∧ most < 10 ^ 6) (hw : Tx w 12) (ht : Tx t 12) (h : Q (.dat (.bl true)) μ) : Ws nrT1 ⟨[some (.cell 0), some (.dat (.str w)), some (.dat (.str t)), some (.dat (.int most)), none], μ⟩ (retP Q X) := by
  unfold nrT1
  generalize eL : lb__law_numbers_right_1 = L
  generalize eT : nrT2 = T
  have s1 : strID [.int most] = some (.str (Str.ofString (toString most))) := by
    show (if most.natAbs < 10 ^ 12 then some (D.str (Str.ofString (toString most))) else none) = _
    rw [if_pos (by omega)]
  have s2 : strID [.int (most + 1)] = some (.str (Str.ofString (toString (most + 1)))) := by
    show (if (most + 1).natAbs < 10 ^ 12 then some (D.str (Str.ofString (toString (most + 1)))) else none) = _
    rw [if_pos (by omega)]
  have s3 : dTimesS (.str (Str.ofString "7")) (.int 5000) = some (.str (repS (Str.ofString "7") 5000)) := by
    show (if (2 : Int) ≤ 5000 ∧ (5000 : Int) ≤ 10000 ∧ 1 ≤ (Str.ofString "7").length ∧ (Str.ofString "7").length ≤ 10 then some (D.str (repS (Str.ofString "7") (5000 : Int).toNat)) else none) = _
    rw [if_pos (by decide +kernel)]
    rfl
  have a1 : As (Str.ofString (toString most)) 100000 := (as_str hm.1 (by omega)).mono (by decide)
  have a2 : As (Str.ofString (toString (most + 1))) 100000 := (as_str (i := most + 1) (by omega) (by omega)).mono (by decide)
  have a3 : As (repS (Str.ofString "7") 5000) 100000 := (reps_tx (m := 1) (tx_dec (by decide +kernel)) (by decide)).as.mono (by decide)
  have dc : ∀ z : Str, ((z.cps.toList.all fun c => decide (c = 10 ∨ (32 ≤ c ∧ c ≤ 126))) = true ∧ z.length ≤ 100000) → As z 100000 := fun z hz => (tx_dec hz).as
  generalize repS (Str.ofString "7") 5000 = z3 at s3 a3
  generalize Str.ofString (toString most) = z1 at s1 a1
  generalize Str.ofString (toString (most + 1)) = z2 at s2 a2
  simp [s1, s2, s3]
  have all : ∀ z ∈ [w, t, Str.ofString "", Str.ofString "-", Str.ofString "0", Str.ofString "00", Str.ofString "-1", z1, z2, Str.ofString "9999", Str.ofString "10000", Str.ofString "99999", z3], As z 100000 := fun z hz => by
    simp only [List.mem_cons, List.not_mem_nil, or_false] at hz
    rcases hz with rfl | rfl | rfl | rfl | rfl | rfl | rfl | rfl | rfl | rfl | rfl | rfl | rfl
    · exact hw.as.mono (by decide)
    · exact ht.as.mono (by decide)
    · exact dc _ (by decide +kernel)
    · exact dc _ (by decide +kernel)
    · exact dc _ (by decide +kernel)
    · exact dc _ (by decide +kernel)
    · exact dc _ (by decide +kernel)
    · exact a1
    · exact a2
    · exact dc _ (by decide +kernel)
    · exact dc _ (by decide +kernel)
    · exact dc _ (by decide +kernel)
    · exact a3
  refine forL_ind (xs := [w, t, Str.ofString "", Str.ofString "-", Str.ofString "0", Str.ofString "00", Str.ofString "-1", z1, z2, Str.ofString "9999", Str.ofString "10000", Str.ofString "99999", z3]) (e := D.str) (fun pre S => ∃ y4, S = ⟨[some (.cell 0), some (.dat (.str w)), some (.dat (.str t)), some (.dat (.int most)), y4], μ⟩) ⟨none, rfl⟩ (fun pre z post S e hI => ?_) (fun S hI => ?_)
  · obtain ⟨y4, rfl⟩ := hI
    have hz := all z (by rw [e]; simp)
    simp
    subst eL
    refine nr_lb (w := w) (t := z) (y4 := some (.dat (.str t))) (most := most) (μ := μ) hz ?_
    exact ⟨_, rfl⟩
  · obtain ⟨y4, rfl⟩ := hI
    simp
    subst eT
    exact nrT2_ok hw h
theorem numbers_ok (hx : Dr B x) (hB : B < 2 ^ 39) (hw : Tx w 12) (ht : Tx t 12) (h : ∀ x', Dr (B + 3) x' → Q (.dat (.bl true)) [x']) : Wf F__law_numbers_right [.cell 0, .dat (.str w), .dat (.str t)] [x] Q X := by
  unfold F__law_numbers_right
  rw [nrT_eq]
  generalize eT : nrT1 = T
  simp [wf_run]
  refine next_ok hx (by omega) (by decide) fun r1 x1 a1 b1 d1 => ?_
  simp
  refine next_ok d1 (by omega) (by decide) fun r2 x2 a2 b2 d2 => ?_
  simp
  refine next_ok d2 (by omega) (by decide) fun r3 x3 a3 b3 d3 => ?_
  simp
  obtain ⟨m, hm, em⟩ : ∃ m : Int, (0 ≤ m ∧ m < 10 ^ 6) ∧ ∀ j : Nat, (j : Int) = r3 → ([SV.dat (.int r1), .dat (.int 9999), .dat (.int 99999), .dat (.int 0), .dat (.int r2), .dat (.int 10000)] : List SV)[j]? = some (.dat (.int m)) := by
    have r5 : r3 = 0 ∨ r3 = 1 ∨ r3 = 2 ∨ r3 = 3 ∨ r3 = 4 ∨ r3 = 5 := by omega
    rcases r5 with rfl | rfl | rfl | rfl | rfl | rfl
    · exact ⟨r1, by omega, fun j hj => by obtain rfl : j = 0 := by omega
                                          rfl⟩
    · exact ⟨9999, by omega, fun j hj => by obtain rfl : j = 1 := by omega
                                            rfl⟩
    · exact ⟨99999, by omega, fun j hj => by obtain rfl : j = 2 := by omega
                                             rfl⟩
    · exact ⟨0, by omega, fun j hj => by obtain rfl : j = 3 := by omega
                                         rfl⟩
    · exact ⟨r2, by omega, fun j hj => by obtain rfl : j = 4 := by omega
                                          rfl⟩
    · exact ⟨10000, by omega, fun j hj => by obtain rfl : j = 5 := by omega
                                             rfl⟩
  rw [ixN_in a3 (by omega)]
  have em := em r3.toNat (by omega)
  simp [em, kidR]
  subst eT
  exact nrT1_ok hm hw ht (h x3 (d3.up (by omega)))
end
end FL
namespace FL
open PySem PySem.Spec PyProof.Rows L2 L3
noncomputable def wrT6 (k_BadName : Addr) (k_BadDay : Addr) : FS := (fRet (fAndV (fBin (g2 dEq) (fB (gD reprE) (fCons (fVar 5) fNil)) (fB (gD reprE) (fCons (fVar 6) fNil))) (fBin (g2 dEq) (fGo (F__law_said_e48 k_BadName k_BadDay) [] (fCons (fC (.int 1)) (fCons (fVar 4) fNil))) (fBin gIx (fLst (fCons (fC (.str "day")) (fCons (fC (.str "none")) fNil))) (fB (gD intD) (fCons (fGo F__law_is_whole [] (fCons (fVar 4) (fCons (fC (.int 0)) (fCons (fC (.int 9999)) fNil)))) fNil))))))
noncomputable def wrT5 (k_BadName : Addr) (k_BadDay : Addr) : FS := (fSeq (fSet 6 (fFrz (fLst (fCons (fGo F__law_is_whole [] (fCons (fVar 4) (fCons (fVar 1) (fCons (fVar 2) fNil)))) (fCons (fGo F__law_is_whole [] (fCons (fVar 4) (fCons (fVar 1) (fCons (fC (.int 9999)) fNil)))) (fCons (fGo F__law_is_whole [] (fCons (fVar 4) (fCons (fC (.int 0)) (fCons (fC (.int 9999)) fNil)))) fNil))))))
    (wrT6 k_BadName k_BadDay))
noncomputable def wrT4 (k_BadName : Addr) (k_BadDay : Addr) : FS := (fSeq (fSet 5 (fFrz (fLst (fCons (fGo F_is_whole [] (fCons (fVar 4) (fCons (fVar 1) (fCons (fVar 2) fNil)))) (fCons (fGo F_is_whole [.dat (.int 9999)] (fCons (fVar 4) (fCons (fVar 1) fNil))) (fCons (fGo F_is_whole [.dat (.int 0), .dat (.int 9999)] (fCons (fVar 4) fNil)) fNil))))))
    (wrT5 k_BadName k_BadDay))
noncomputable def wrT3 (k_BadName : Addr) (k_BadDay : Addr) : FS := (fSeq (fSet 4 (fFrz (fBin gIx (fBin gAdd (fVar 3) (fLst (fCons (fC .non) (fCons (fC (.bl true)) (fCons (fC (.bl false)) (fCons (fC (.str "1")) (fCons (fLst (fCons (fC (.int 1)) fNil)) (fCons (fTup (fCons (fC (.int 1)) fNil)) (fCons (fDNew (.dK [])) fNil))))))))) (fGo F__law_next [] (fCons (fVar 0) (fCons (fC (.int 16)) fNil))))))
    (wrT4 k_BadName k_BadDay))
noncomputable def wrT2 (k_BadName : Addr) (k_BadDay : Addr) : FS := (fSeq (fSet 3 (fFrz (fLst (fCons (fVar 1) (fCons (fVar 2) (fCons (fBin (g2 (dI iSub)) (fVar 1) (fC (.int 1))) (fCons (fBin gAdd (fVar 2) (fC (.int 1))) (fCons (fC (.int 0)) (fCons (fBin (g2 (dI iPow)) (fC (.int 10)) (fC (.int 30))) (fCons (fNeg (fBin (g2 (dI iPow)) (fC (.int 10)) (fC (.int 30)))) (fCons (fC (.int 9999)) (fCons (fC (.int 10000)) fNil))))))))))))
    (wrT3 k_BadName k_BadDay))
noncomputable def wrT1 (k_BadName : Addr) (k_BadDay : Addr) : FS := (fSeq (fSet 2 (fFrz (fBin (g2 (dI iSub)) (fBin gAdd (fVar 1) (fGo F__law_next [] (fCons (fVar 0) (fCons (fC (.int 9)) fNil)))) (fC (.int 1)))))
    (wrT2 k_BadName k_BadDay))
theorem wrT_eq {k_BadName : Addr} {k_BadDay : Addr} : fb__law_wholes_right k_BadName k_BadDay = (fSeq (fSet 1 (fFrz (fBin (g2 (dI iSub)) (fGo F__law_next [] (fCons (fVar 0) (fCons (fC (.int 41)) fNil))) (fC (.int 20)))))
    (wrT1 k_BadName k_BadDay)) := rfl
theorem od_b3 {a b c : Bool} : Od (.lst [.bl a, .bl b, .bl c]) 70000 60 := ⟨⟨ok3_bl, ok3_bl, ok3_bl, trivial⟩, by simp [D.w3, w3L], by simp [D.d3, d3L]⟩
noncomputable def wOdd : List D := [.non, .bl true, .bl false, .str "1", .lst [.int 1], .tup [.int 1], .dK [] []]
theorem wOdd_ok : ∀ d ∈ wOdd, D.ok3 d := by
  intro d hd
  simp only [wOdd, List.mem_cons, List.not_mem_nil, or_false] at hd
  rcases hd with rfl | rfl | rfl | rfl | rfl | rfl | rfl <;> simp [D.ok3, ok3L] <;> decide
section
variable {kN kD : Addr} {B : Int} {x : SV} {a b : Int} {d : D} {Q : SV → List SV → Prop} {X : Ex → List SV → Prop} {y3 : Option SV}
theorem wrT4_ok (hne : kN ≠ kD) (ok : D.ok3 d) (h : Q (.dat (.bl true)) [x]) : Ws (wrT4 kN kD) ⟨[some (.cell 0), some (.dat (.int a)), some (.dat (.int b)), y3, some (.dat d), none, none], [x]⟩ (retP Q X) := by
  have e3 := (od_b3 (a := isW a b d) (b := isW a 9999 d) (c := isW 0 9999 d)).repr
  unfold wrT4
  generalize eT : wrT5 kN kD = T
  simp
  refine whO ok ?_
  simp
  refine whO ok ?_
  simp
  refine whO ok ?_
  simp
  subst eT
  unfold wrT5
  generalize eT : wrT6 kN kD = T
  simp
  refine lwhO ok ?_
  simp
  refine lwhO ok ?_
  simp
  refine lwhO ok ?_
  simp
  subst eT
  unfold wrT6
  simp [e3]
  refine said1D ok hne ?_
  simp
  refine lwhO ok ?_
  simp
  cases isW 0 9999 d
  · simp [show ixN 2 0 = some 0 from rfl, kidR]
    exact h
  · simp [show ixN 2 1 = some 1 from rfl, kidR]
    exact h
theorem wholes_ok (hne : kN ≠ kD) (hx : Dr B x) (hB : B < 2 ^ 39) (h : ∀ x', Dr (B + 3) x' → Q (.dat (.bl true)) [x']) : Wf (F__law_wholes_right kN kD) [.cell 0] [x] Q X := by
  unfold F__law_wholes_right
  rw [wrT_eq]
  generalize eT : wrT1 kN kD = T
  simp [wf_run]
  refine next_ok hx (by omega) (by decide) fun r1 x1 a1 b1 d1 => ?_
  simp
  subst eT
  unfold wrT1
  generalize eT : wrT2 kN kD = T
  simp
  refine next_ok d1 (by omega) (by decide) fun r2 x2 a2 b2 d2 => ?_
  simp
  subst eT
  unfold wrT2
  generalize eT : wrT3 kN kD = T
  simp
  subst eT
  unfold wrT3
  generalize eT : wrT4 kN kD = T
  simp
  have el : ([SV.dat (D.int (r1 - 20)), SV.dat (D.int (r1 - 20 + r2 - 1)), SV.dat (D.int (r1 - 20 - 1)),
                SV.dat (D.int (r1 - 20 + r2)), SV.dat (D.int 0), SV.dat (D.int 1000000000000000000000000000000),
                SV.dat (D.int (-1000000000000000000000000000000)), SV.dat (D.int 9999), SV.dat (D.int 10000),
                SV.dat D.non, SV.dat (D.bl true), SV.dat (D.bl false), SV.dat (D.str (Str.ofString "1")),
                SV.dat (D.lst [D.int 1]), SV.dat (D.tup [D.int 1]), SV.dat (D.dK [] [])] : List SV) = ([D.int (r1 - 20), D.int (r1 - 20 + r2 - 1), D.int (r1 - 20 - 1),
                D.int (r1 - 20 + r2), D.int 0, D.int 1000000000000000000000000000000,
                D.int (-1000000000000000000000000000000), D.int 9999, D.int 10000] ++ wOdd).map SV.dat := rfl
  have all : ∀ d ∈ [D.int (r1 - 20), D.int (r1 - 20 + r2 - 1), D.int (r1 - 20 - 1),
                D.int (r1 - 20 + r2), D.int 0, D.int 1000000000000000000000000000000,
                D.int (-1000000000000000000000000000000), D.int 9999, D.int 10000] ++ wOdd, D.ok3 d := fun d hd => by
    rcases List.mem_append.mp hd with hd | hd
    · simp only [List.mem_cons, List.not_mem_nil, or_false] at hd
      rcases hd with rfl | rfl | rfl | rfl | rfl | rfl | rfl | rfl | rfl
      · show _ < _; omega
      · show _ < _; omega
      · show _ < _; omega
      · show _ < _; omega
      · show _ < _; decide
      · show _ < _; decide
      · show _ < _; decide
      · show _ < _; decide
      · show _ < _; decide
    · exact wOdd_ok d hd
  have ll : ([D.int (r1 - 20), D.int (r1 - 20 + r2 - 1), D.int (r1 - 20 - 1),
                D.int (r1 - 20 + r2), D.int 0, D.int 1000000000000000000000000000000,
                D.int (-1000000000000000000000000000000), D.int 9999, D.int 10000] ++ wOdd).length = 16 := rfl
  rw [el]
  generalize [D.int (r1 - 20), D.int (r1 - 20 + r2 - 1), D.int (r1 - 20 - 1),
                D.int (r1 - 20 + r2), D.int 0, D.int 1000000000000000000000000000000,
                D.int (-1000000000000000000000000000000), D.int 9999, D.int 10000] ++ wOdd = L at all ll
  refine next_ok d2 (by omega) (by decide) fun r3 x3 a3 b3 d3 => ?_
  have u1 : ixN L.length r3 = some r3.toNat := ixN_in a3 (by omega)
  have u2 : L[r3.toNat]? = some (L[r3.toNat]'(by omega)) := List.getElem?_eq_getElem _
  simp [u1, u2, kidR]
  subst eT
  exact wrT4_ok hne (all _ (List.getElem_mem _)) (h x3 (d3.up (by omega)))
end
end FL
namespace FL
open PySem PySem.Spec PyProof.Rows L2 L3
noncomputable def l1T4 (k_BadName : Addr) (k_BadDay : Addr) : FS := (fIf (fOr (fNot (fTru (fGo (F__law_wholes_right k_BadName k_BadDay) [] (fCons (fVar 1) fNil)))) (fNot (fTru (fGo F__law_rows_right [] (fCons (fVar 1) fNil))))) (fRet (fC (.bl false))) fNext)
noncomputable def l1T3 (k_BadName : Addr) (k_BadDay : Addr) : FS := (fSeq (fIf (fNot (fTru (fGo F__law_numbers_right [] (fCons (fVar 1) (fCons (fVar 4) (fCons (fVar 3) fNil)))))) (fRet (fC (.bl false))) fNext)
    (l1T4 k_BadName k_BadDay))
noncomputable def l1T2 (k_BadName : Addr) (k_BadDay : Addr) : FS := (fSeq (fFor (.nm 6) (fItems (fTup (fCons (fVar 3) (fCons (fVar 4) (fCons (fVar 5) (fCons (fBin gAdd (fVar 3) (fC (.str "\n"))) fNil)))))) (lb_law_92a_1 k_BadName k_BadDay))
    (l1T3 k_BadName k_BadDay))
noncomputable def l1T1 (k_BadName : Addr) (k_BadDay : Addr) : FS := (fSeq (fSet 5 (fFrz (fBin gIx (fFrz (fLst (fCons (fC .non) (fCons (fC (.int 5)) (fCons (fC (.bl true)) (fCons (fLst (fCons (fC (.str "a")) fNil)) (fCons (fTup (fCons (fC (.str "a")) fNil)) (fCons (fDNew (.dK [])) (fCons (fC (.str "")) (fCons (fC (.str "A")) fNil)))))))))) (fGo F__law_next [] (fCons (fVar 1) (fCons (fC (.int 8)) fNil))))))
    (l1T2 k_BadName k_BadDay))
theorem l1T_eq {k_BadName : Addr} {k_BadDay : Addr} : lb_law_92a_2 k_BadName k_BadDay = (fSeq (fPar [3, 4] (fCons (fFrz (fGo F__law_text [] (fCons (fVar 1) fNil))) (fCons (fFrz (fGo F__law_figures [] (fCons (fVar 1) fNil))) fNil)))
    (l1T1 k_BadName k_BadDay)) := rfl
theorem reps_list {x : Str} : ∀ (n : Nat) (acc : Array Nat), ((List.replicate n x.cps).foldl (· ++ ·) acc).toList = acc.toList ++ (List.replicate n x.cps.toList).flatten
  | 0, acc => by simp
  | n + 1, acc => by
    rw [List.replicate_succ, List.foldl_cons, reps_list n, Array.toList_append, List.replicate_succ, List.flatten_cons, List.append_assoc]
noncomputable def aWord : Str := Str.ofString "a"
theorem fold_a : ∀ (n : Nat) (ws : List Str), (List.replicate n [97, 32]).flatten.foldl pst ([], ws, Str.empty) = ([], ws ++ List.replicate n aWord, Str.empty)
  | 0, ws => by simp
  | n + 1, ws => by
    rw [List.replicate_succ, List.flatten_cons, List.foldl_append]
    have e1 : [97, 32].foldl pst ([], ws, Str.empty) = ([], ws ++ [aWord], Str.empty) := by
      show pst (pst ([], ws, Str.empty) 97) 32 = _
      have e2 : pst ([], ws, Str.empty) 97 = ([], ws, aWord) := rfl
      rw [e2]
      rfl
    rw [e1, fold_a n]
    simp [List.replicate_succ]
theorem rows_a {n : Nat} (hn : n * 2 ≤ 100000) : rowsT (repS (Str.ofString "a ") n) = [List.replicate n aWord] := by
  have hs : ∀ c ∈ (repS (Str.ofString "a ") n).cps.toList, Sg c := (reps_tx (m := 2) (tx_dec (by decide +kernel)) hn).1
  rw [← parted_eq hs]
  have e : (repS (Str.ofString "a ") n).cps.toList = (List.replicate n [97, 32]).flatten := by
    have := reps_list (x := Str.ofString "a ") n #[]
    have e2 : (Str.ofString "a ").cps.toList = [97, 32] := by decide +kernel
    rw [e2] at this
    exact this
  rw [e]
  unfold p0
  rw [fold_a]
  rfl
theorem rows_0 : rowsT (Str.ofString "") = [[]] := by
  rw [← parted_eq (x := Str.ofString "") (fun c hc => by cases hc)]
  rfl
theorem gb_timesB {ra rb : R} {S : Sto} {ds : List D} {k : Int} {kk : R → Sto → Prop} (ha : ra.its S = some (false, ds)) (hb : rb.peek S = some (.int k)) (h1 : 0 ≤ k ∧ k ≤ 10000 ∧ ds.length * k.toNat ≤ 1000000) (h : kk (.val (.own (((List.replicate k.toNat ds).flatten).map SV.dat))) S) : Gb (gTimesB ra rb S) kk := by
  unfold gTimesB
  rw [ha, hb]
  dsimp only
  rw [if_pos h1]
  simpa using h
section
variable {kN kD : Addr} {B : Int} {x : SV} {t w : Str} {d : D} {μ : List SV} {Q : SV → List SV → Prop} {X : Ex → List SV → Prop} {P : SO → Prop} {y0 y1 y2 y3 y4 y5 y6 y7 : Option SV}
theorem l1_lb (hne : kN ≠ kD) (a : Nq d) (h : ∀ y7, P (.nx ⟨[y0, y1, y2, y3, y4, y5, some (.dat d), y7], μ⟩)) : Ws (lb_law_92a_1 kN kD) ⟨[y0, y1, y2, y3, y4, y5, some (.dat d), y7], μ⟩ P := by
  have ib : isiD "bool" (.bl (isN d)) = some (.bl true) := rfl
  have eb : eqD (.bl (isN d)) (.bl (isN d)) = some true := by rw [Bd.eq (w := 10) (w' := 10) bd_bl bd_bl, eqT_self (bd_bl (w := 10) (p := 64)).sm]
  unfold lb_law_92a_1
  simp
  refine nmQ a ?_
  simp [ib]
  refine lnmQ a ?_
  simp [eb]
  refine said1N a hne ?_
  simp
  refine lnmQ a ?_
  simp
  cases isN d
  · simp [show ixN 2 0 = some 0 from rfl, kidR]
    exact h _
  · simp [show ixN 2 1 = some 1 from rfl, kidR]
    exact h _
noncomputable def oddN : List D := [.non, .int 5, .bl true, .lst [.str "a"], .tup [.str "a"], .dK [] [], .str "", .str "A"]
theorem oddN_ok : ∀ d ∈ oddN, D.ok3 d := by
  intro d hd
  simp only [oddN, List.mem_cons, List.not_mem_nil, or_false] at hd
  rcases hd with rfl | rfl | rfl | rfl | rfl | rfl | rfl | rfl <;> simp [D.ok3, ok3L] <;> decide
theorem l1_ok (hne : kN ≠ kD) (hx : Dr B x) (hB : B < 2 ^ 36) (h : ∀ y3 y4 y5 y6 y7 x', Dr (B + 200) x' → P (.nx ⟨[y0, some (.cell 0), y2, y3, y4, y5, y6, y7], [x']⟩)) : Ws (lb_law_92a_2 kN kD) ⟨[y0, some (.cell 0), y2, y3, y4, y5, y6, y7], [x]⟩ P := by
  rw [l1T_eq]
  generalize eT : l1T1 kN kD = T
  simp
  refine text_ok hx (by omega) fun t x1 ht d1 => ?_
  simp
  refine figures_ok d1 (by omega) fun w x2 hw d2 => ?_
  simp
  subst eT
  unfold l1T1
  generalize eT : l1T2 kN kD = T
  simp
  refine next_ok d2 (by omega) (by decide) fun r3 x3 a3 b3 d3 => ?_
  have fin : ∀ o, D.ok3 o → Ws T ⟨[y0, some (.cell 0), y2, some (.dat (.str t)), some (.dat (.str w)), some (.dat o), y6, y7], [x3]⟩ P := fun o od => by
    subst eT
    unfold l1T2
    generalize eT : l1T3 kN kD = T
    generalize eL : lb_law_92a_1 kN kD = LB
    have hl := ht.2
    simp
    have ln : (Str.ofString "\n").length = 1 := by decide +kernel
    have tn : Tx (Str.ofString "\n") 1 := tx_dec (by decide +kernel)
    refine ⟨by omega, ?_⟩
    have go : ∀ {y7 : Option SV} {d : D} {P : SO → Prop}, Nq d → (∀ y7, P (.nx ⟨[y0, some (.cell 0), y2, some (.dat (.str t)), some (.dat (.str w)), some (.dat o), some (.dat d), y7], [x3]⟩)) → Ws LB ⟨[y0, some (.cell 0), y2, some (.dat (.str t)), some (.dat (.str w)), some (.dat o), some (.dat d), y7], [x3]⟩ P := fun {y7 d P} a h => by
      subst eL
      exact l1_lb hne a h
    refine forF_cons ?_
    simp
    refine go (.inr ⟨t, rfl, ht.as.mono (by decide)⟩) fun y7 => ?_
    refine forF_cons ?_
    simp
    refine go (.inr ⟨w, rfl, hw.as.mono (by decide)⟩) fun y7 => ?_
    refine forF_cons ?_
    simp
    refine go (.inl od) fun y7 => ?_
    refine forF_cons ?_
    simp
    refine go (.inr ⟨_, rfl, (tx_app ht tn).as.mono (by decide)⟩) fun y7 => ?_
    refine forF_nil ?_
    simp
    subst eT
    unfold l1T3
    generalize eT : l1T4 kN kD = T
    simp
    refine numbers_ok d3 (by omega) hw ht fun x4 d4 => ?_
    simp
    subst eT
    unfold l1T4
    simp
    refine wholes_ok hne d4 (by omega) fun x5 d5 => ?_
    simp
    refine rows_right_ok d5 (by omega) fun x6 d6 => ?_
    simp
    exact h _ _ _ _ _ x6 (d6.up (by omega))
  have all := oddN_ok
  have el : ([D.non, .int 5, .bl true, .lst [.str (Str.ofString "a")], .tup [.str (Str.ofString "a")], .dK [] [], .str (Str.ofString ""), .str (Str.ofString "A")] : List D) = oddN := rfl
  have l8 : oddN.length = 8 := rfl
  obtain ⟨j, rfl⟩ := Int.eq_ofNat_of_zero_le a3
  have e0 : atI oddN (j : Int) = some (oddN[j]'(by omega)) := by unfold atI; rw [ixN_in (by omega) (by omega)]; exact List.getElem?_eq_getElem _
  simp
  rw [el, e0]
  simp
  exact fin _ (all _ (List.getElem_mem _))
theorem law01_ok {ns : List Int} (hne : kN ≠ kD) (hl : ns.length ≤ 63) : Wf (F_law_92a kN kD) [.dat (.kl (ns.map D.int))] [] (fun x _ => x = .dat (.bl true)) (fun _ _ => False) := by
  unfold F_law_92a fb_law_92a
  generalize eb : lb_law_92a_2 kN kD = fb
  simp [wf_run]
  refine begin_ok hl fun cs c1 c2 => ?_
  have d0 : Dr 0 (.node (.dK drawKs) [.dat (.lst (cs.map D.int)), .dat (.int 0), .dat (.int 0), .dat (.int 0)]) := ⟨cs, 0, 0, 0, rfl, c1, c2, by omega, by omega, by omega, by omega, by omega⟩
  simp
  generalize (SV.node (.dK drawKs) [.dat (.lst (cs.map D.int)), .dat (.int 0), .dat (.int 0), .dat (.int 0)]) = x0 at d0 ⊢
  clear c1 c2
  have l1 : lenKD [.kl (ns.map D.int)] = some (.int (ns.length : Int)) := by
    show some (D.int ((ns.map D.int).length : Int)) = _
    rw [List.length_map]
  obtain ⟨m, hm, em⟩ : ∃ m : Nat, m ≤ 63 ∧ min2D [.int 63, .int (ns.length : Int)] = some (.int (m : Int)) := ⟨ns.length, hl, by
    show some (D.int (if (ns.length : Int) < 63 then (ns.length : Int) else 63)) = _
    congr 2
    split <;> omega⟩
  simp [l1, em]
  refine ⟨small62_of (by omega) (by omega), ?_⟩
  refine forF_ind (fun i S => ∃ y2 y3 y4 y5 y6 y7 x, S = ⟨[some (.dat (.kl (ns.map D.int))), some (.cell 0), y2, y3, y4, y5, y6, y7], [x]⟩ ∧ Dr (300 * (i : Int)) x) ⟨none, none, none, none, none, none, x0, rfl, d0.up (by omega)⟩ (fun i d S hd hI => ?_) (fun S hI => ?_)
  · obtain ⟨y2, y3, y4, y5, y6, y7, x, rfl, d1⟩ := hI
    have hi := (List.getElem?_eq_some_iff.mp hd).1
    rw [range_len] at hi
    simp
    subst eb
    refine l1_ok hne d1 (by omega) fun y3 y4 y5 y6 y7 x' d2 => ?_
    exact ⟨_, _, _, _, _, _, x', rfl, d2.up (by omega)⟩
  · obtain ⟨y2, y3, y4, y5, y6, y7, x, rfl, d1⟩ := hI
    simp
    refine rows_ok (by show 0 ≤ _; omega) ?_
    rw [rows_0]
    have e0 : eqD (.lst [.lst []]) (.lst [.lst []]) = some true := rws_eq (ps := [[]]) (fun ws hws w hw => by
      rw [List.mem_singleton] at hws; subst hws; cases hw)
    simp [e0]
    have s3 : dTimesS (.str (Str.ofString "a ")) (.int 3000) = some (.str (repS (Str.ofString "a ") 3000)) := by
      show (if (2 : Int) ≤ 3000 ∧ (3000 : Int) ≤ 10000 ∧ 1 ≤ (Str.ofString "a ").length ∧ (Str.ofString "a ").length ≤ 10 then some (D.str (repS (Str.ofString "a ") (3000 : Int).toNat)) else none) = _
      rw [if_pos (by decide +kernel)]
      rfl
    have tz : Tx (repS (Str.ofString "a ") 3000) 6000 := reps_tx (m := 2) (tx_dec (by decide +kernel)) (by decide)
    have rz := rows_a (n := 3000) (by decide)
    have eR : ∀ n : Nat, (List.replicate n [D.str (Str.ofString "a")]).flatten = (List.replicate n aWord).map D.str := fun n => by
      induction n with
      | zero => rfl
      | succ n ih => rw [List.replicate_succ, List.flatten_cons, ih, List.replicate_succ]; rfl
    have eR := eR (3000 : Int).toNat
    have sg : ∀ w ∈ List.replicate 3000 aWord, WSg w := fun w hw => by
      rw [List.eq_of_mem_replicate hw]
      exact (tx_dec (n := 1) (x := aWord) (by decide +kernel)).1
    have e4 : (3000 : Int).toNat = 3000 := rfl
    rw [e4] at eR
    generalize repS (Str.ofString "a ") 3000 = z at s3 tz rz
    have tl := tz.2
    simp [s3]
    refine rows_ok (by omega) ?_
    rw [rz]
    generalize hR : List.replicate 3000 aWord = R at eR sg
    have eqR : eqD (.lst [.lst (R.map D.str)]) (.lst [.lst (R.map D.str)]) = some true := rws_eq (ps := [R]) (fun ws hws w hw => by
      rw [List.mem_singleton] at hws; subst hws; exact sg w hw)
    simp
    refine gb_timesB (ds := [D.str (Str.ofString "a")]) (by rfl) (by rfl) (by decide) ?_
    rw [e4, eR]
    have pk : peeks (R.map (SV.dat ∘ D.str)) = some (R.map D.str) := peeks_mapf (f := D.str)
    have pk2 : peeks (R.map fun w => SV.dat (D.str w)) = some (R.map D.str) := peeks_mapf (f := D.str)
    simp [pk, pk2, eqR]
end
end FL
namespace GK01
open PySem PySem.Spec PyProof.Rows L2 L3
theorem law_true {kA kB : Addr} (hne : kA ≠ kB) {ns : List Int} (hl : ns.length ≤ 63) (_ : ∀ i ∈ ns, Builtin.Int.intBits i ≤ 1048576) : ∃ μ, FL.F_law_92a kA kB [.dat (.kl (ns.map D.int))] [] = some (.ok (.dat (.bl true)) μ) := by
  obtain ⟨r, e, q⟩ := FL.law01_ok hne hl
  cases r with
  | ok x μ =>
    have q : x = .dat (.bl true) := q
    subst q
    exact ⟨μ, e⟩
  | exc e S => exact q.elim
end GK01
open PySem PySem.W PyProof.Rows
set_option maxHeartbeats 0 in
theorem PySem.Challenge.cw_pathbook_k01_names_numbers_days_and_rows_holds : PySem.Challenge.rw_pathbook_k01_names_numbers_days_and_rows.Holds := by
  w_on; o_law; k_head; (case hw => w_witness2)
  k_fill
  refine' L3.end_walk (l := PySem.Challenge.rw_pathbook_k01_names_numbers_days_and_rows) (n := 63) (k := 5) (x := "_law_script") (f := FL.F_law_92a _ _) rfl (by decide) rfl ⟨rfl, by decide, by decide⟩ (fun w h Y => PySem.W.kIn_of Y) ?F (fun ns hl hb => GK01.law_true ?hne hl hb)
  case F =>
    intro w mg fa h KX G hmg
    refine' GK01.all_mk KX G hmg ?d0 ?a0 ?l0 ?c0 ?k0 ?a1 ?l1 ?c1 ?k1 ?a2 ?l2 ?c2 ?k2 ?a3 ?l3 ?c3 ?k3 ?d4 ?a4 ?l4 ?c4 ?k4 ?a5 ?l5 ?c5 ?k5 ?a6 ?l6 ?c6 ?k6 ?a7 ?l7 ?c7 ?k7 ?a8 ?l8 ?c8 ?k8 ?a9 ?l9 ?c9 ?k9 ?a10 ?l10 ?c10 ?k10 ?a11 ?l11 ?c11 ?k11 ?a12 ?l12 ?c12 ?k12 ?a13 ?l13 ?c13 ?k13 ?a14 ?l14 ?c14 ?k14 ?a15 ?l15 ?c15 ?k15 ?a16 ?l16 ?c16 ?k16 ?a17 ?l17 ?c17 ?k17 ?a18 ?l18 ?c18 ?k18 ?a19 ?l19 ?c19 ?k19 ?a20 ?l20 ?c20 ?k20 ?a21 ?l21 ?c21 ?k21 ?ha_MOST_LETTERS ?ha_SMALL ?ha_MOST_FIGURES ?ha_FIGURES ?b_isinstance ?b_int ?b_bool ?b_str ?b_len ?b_all ?b_range ?b_repr ?b_list ?b_min ?hg_PathError ?hg_BadName ?hg_BadDay ?hg_BadSection ?hg_BadBook ?hg_BadLegs ?hg_BadThing ?hg_SecondBook ?hg_BadPlan ?hg_BadText ?hg_BadLine ?pe_BadName ?pt_BadName ?ps_BadName ?pm_BadName ?pe_BadDay ?pt_BadDay ?ps_BadDay ?pm_BadDay ?pu_BadDay_PathError ?pb_PathError ?pd_PathError ?pt_PathError ?pu_BadName_PathError ?pg_BadDay ?pa_BadDay ?pb_BadDay ?pd_BadDay ?pc_BadDay ?pq_get ?pq_tak ?po_BadDay ?pu_BadDay_SecondBook ?pd_SecondBook ?pt_SecondBook ?nq_BadDay_SecondBook ?pu_BadDay_BadThing ?pd_BadThing ?pt_BadThing ?nq_BadDay_BadThing ?pu_BadDay_BadText ?pd_BadText ?pt_BadText ?nq_BadDay_BadText ?pu_BadDay_BadSection ?pd_BadSection ?pt_BadSection ?nq_BadDay_BadSection ?pu_BadDay_BadPlan ?pd_BadPlan ?pt_BadPlan ?nq_BadDay_BadPlan ?pu_BadDay_BadLine ?pd_BadLine ?pt_BadLine ?nq_BadDay_BadLine ?pu_BadDay_BadLegs ?pd_BadLegs ?pt_BadLegs ?nq_BadDay_BadLegs ?pu_BadDay_BadBook ?pd_BadBook ?pt_BadBook ?nq_BadDay_BadBook ?pg_BadName ?pa_BadName ?pb_BadName ?pd_BadName ?pc_BadName ?po_BadName ?pu_BadName_SecondBook ?nq_BadName_SecondBook ?pu_BadName_BadThing ?nq_BadName_BadThing ?pu_BadName_BadText ?nq_BadName_BadText ?pu_BadName_BadSection ?nq_BadName_BadSection ?pu_BadName_BadPlan ?nq_BadName_BadPlan ?pu_BadName_BadLine ?nq_BadName_BadLine ?pu_BadName_BadLegs ?nq_BadName_BadLegs ?pu_BadName_BadBook ?nq_BadName_BadBook ?pu_BadDay_BadName ?nq_BadDay_BadName ?pu_BadName_BadName ?pu_BadDay_BadDay ?pu_BadName_BadDay ?nq_BadName_BadDay
    (case a0 => k_is); (case l0 => k_is); (case c0 => k_is); (case k0 => k_is); (case a1 => k_is); (case l1 => k_is); (case c1 => k_is); (case k1 => k_is); (case a2 => k_is); (case l2 => k_is); (case c2 => k_is); (case k2 => k_is); (case a3 => k_is); (case l3 => k_is); (case c3 => k_is); (case k3 => k_is); (case a4 => k_is); (case l4 => k_is); (case c4 => k_is); (case k4 => k_is); (case a5 => k_is); (case l5 => k_is); (case c5 => k_is); (case k5 => k_is); (case a6 => k_is); (case l6 => k_is); (case c6 => k_is); (case k6 => k_is); (case a7 => k_is); (case l7 => k_is); (case c7 => k_is); (case k7 => k_is); (case a8 => k_is); (case l8 => k_is); (case c8 => k_is); (case k8 => k_is); (case a9 => k_is); (case l9 => k_is); (case c9 => k_is); (case k9 => k_is); (case a10 => k_is); (case l10 => k_is); (case c10 => k_is); (case k10 => k_is); (case a11 => k_is); (case l11 => k_is); (case c11 => k_is); (case k11 => k_is); (case a12 => k_is); (case l12 => k_is); (case c12 => k_is); (case k12 => k_is); (case a13 => k_is); (case l13 => k_is); (case c13 => k_is); (case k13 => k_is); (case a14 => k_is); (case l14 => k_is); (case c14 => k_is); (case k14 => k_is); (case a15 => k_is); (case l15 => k_is); (case c15 => k_is); (case k15 => k_is); (case a16 => k_is); (case l16 => k_is); (case c16 => k_is); (case k16 => k_is); (case a17 => k_is); (case l17 => k_is); (case c17 => k_is); (case k17 => k_is); (case a18 => k_is); (case l18 => k_is); (case c18 => k_is); (case k18 => k_is); (case a19 => k_is); (case l19 => k_is); (case c19 => k_is); (case k19 => k_is); (case a20 => k_is); (case l20 => k_is); (case c20 => k_is); (case k20 => k_is); (case a21 => k_is); (case l21 => k_is); (case c21 => k_is); (case k21 => k_is); (case b_isinstance => k_is); (case b_int => k_is); (case b_bool => k_is); (case b_str => k_is); (case b_len => k_is); (case b_all => k_is); (case b_range => k_is); (case b_repr => k_is); (case b_list => k_is); (case b_min => k_is); (case hg_PathError => k_is); (case hg_BadName => k_is); (case hg_BadDay => k_is); (case hg_BadSection => k_is); (case hg_BadBook => k_is); (case hg_BadLegs => k_is); (case hg_BadThing => k_is); (case hg_SecondBook => k_is); (case hg_BadPlan => k_is); (case hg_BadText => k_is); (case hg_BadLine => k_is); (case pe_BadName => k_exc); (case pt_BadName => k_is); (case ps_BadName => k_is); (case pm_BadName => k_is); (case pe_BadDay => k_exc); (case pt_BadDay => k_is); (case ps_BadDay => k_is); (case pm_BadDay => k_is); (case pu_BadDay_PathError => k_is); (case pb_PathError => k_is); (case pd_PathError => k_is); (case pt_PathError => k_is); (case pu_BadName_PathError => k_is); (case pg_BadDay => k_is); (case pa_BadDay => k_is); (case pb_BadDay => k_is); (case pd_BadDay => k_is); (case pc_BadDay => k_is); (case pq_get => k_is); (case pq_tak => k_is); (case po_BadDay => k_is); (case pu_BadDay_SecondBook => k_is); (case pd_SecondBook => k_is); (case pt_SecondBook => k_is); (case nq_BadDay_SecondBook => first | rfl | decide); (case pu_BadDay_BadThing => k_is); (case pd_BadThing => k_is); (case pt_BadThing => k_is); (case nq_BadDay_BadThing => first | rfl | decide); (case pu_BadDay_BadText => k_is); (case pd_BadText => k_is); (case pt_BadText => k_is); (case nq_BadDay_BadText => first | rfl | decide); (case pu_BadDay_BadSection => k_is); (case pd_BadSection => k_is); (case pt_BadSection => k_is); (case nq_BadDay_BadSection => first | rfl | decide); (case pu_BadDay_BadPlan => k_is); (case pd_BadPlan => k_is); (case pt_BadPlan => k_is); (case nq_BadDay_BadPlan => first | rfl | decide); (case pu_BadDay_BadLine => k_is); (case pd_BadLine => k_is); (case pt_BadLine => k_is); (case nq_BadDay_BadLine => first | rfl | decide); (case pu_BadDay_BadLegs => k_is); (case pd_BadLegs => k_is); (case pt_BadLegs => k_is); (case nq_BadDay_BadLegs => first | rfl | decide); (case pu_BadDay_BadBook => k_is); (case pd_BadBook => k_is); (case pt_BadBook => k_is); (case nq_BadDay_BadBook => first | rfl | decide); (case pg_BadName => k_is); (case pa_BadName => k_is); (case pb_BadName => k_is); (case pd_BadName => k_is); (case pc_BadName => k_is); (case po_BadName => k_is); (case pu_BadName_SecondBook => k_is); (case nq_BadName_SecondBook => first | rfl | decide); (case pu_BadName_BadThing => k_is); (case nq_BadName_BadThing => first | rfl | decide); (case pu_BadName_BadText => k_is); (case nq_BadName_BadText => first | rfl | decide); (case pu_BadName_BadSection => k_is); (case nq_BadName_BadSection => first | rfl | decide); (case pu_BadName_BadPlan => k_is); (case nq_BadName_BadPlan => first | rfl | decide); (case pu_BadName_BadLine => k_is); (case nq_BadName_BadLine => first | rfl | decide); (case pu_BadName_BadLegs => k_is); (case nq_BadName_BadLegs => first | rfl | decide); (case pu_BadName_BadBook => k_is); (case nq_BadName_BadBook => first | rfl | decide); (case pu_BadDay_BadName => k_is); (case nq_BadDay_BadName => first | rfl | decide); (case pu_BadName_BadName => k_is); (case pu_BadDay_BadDay => k_is); (case pu_BadName_BadDay => k_is); (case nq_BadName_BadDay => first | rfl | decide); (case ha_MOST_LETTERS => k_is); (case ha_SMALL => k_is); (case ha_MOST_FIGURES => k_is); (case ha_FIGURES => k_is); (case d0 => k_is); (case d4 => k_is)
  (case hne => decide)

