import PyProof.Rows.All
import Wide.All
import OpenK.AllK
import Wide.FinOn
import HandS.ForMost
import HandS.Defaults
import HandS.EndBits
import HandS.Wide
import HandS.TupAny
import HandS.IsInst
import HandS.More
import PySem.Challenge.RW_endsalike_k00_fronts_to_twelve
set_option Elab.async false
set_option linter.all false
set_option maxRecDepth 100000
set_option maxHeartbeats 4000000
namespace DL
open PySem L2
inductive D where
  | non | bl (b : Bool) | int (i : Int) | str (x : Str) | lst (xs : List D) | tup (xs : List D)
  | scr (ns : List Int) | ob (c : Str) (fs : List (Str × D))
abbrev Mg := Str → Option Value
mutual
def Rep (K : PySem.W.Frag) (mg : Mg) (F : Hp) : D → V → Prop
  | .non, v => v = .non
  | .bl b, v => v = .bl b
  | .int i, v => v = .int i
  | .str x, v => v = .str x
  | .lst ds, v => ∃ a vs, v = .ref a ∧ F a = some (.lst vs) ∧ RepL K mg F ds vs
  | .tup ds, v => ∃ a vs, v = .ref a ∧ SqT K F a vs ∧ RepL K mg F ds vs
  | .scr ns, v => ∃ a, v = .ref a ∧ SqL K F a (ns.map V.int)
  | .ob c fs, v => ∃ a C dx vs, v = .ref a ∧ mg c = some (.ref C) ∧ F a = some (.ins C dx vs) ∧ RepF K mg F fs vs
def RepL (K : PySem.W.Frag) (mg : Mg) (F : Hp) : List D → List V → Prop
  | [], vs => vs = []
  | d :: ds, vs => ∃ v r, vs = v :: r ∧ Rep K mg F d v ∧ RepL K mg F ds r
def RepF (K : PySem.W.Frag) (mg : Mg) (F : Hp) : List (Str × D) → List (Str × V) → Prop
  | [], vs => vs = []
  | (n, d) :: ds, vs => ∃ v r, vs = (n, v) :: r ∧ Rep K mg F d v ∧ RepF K mg F ds r
end
section
variable {K : PySem.W.Frag} {mg : Mg} {F F' : Hp}
theorem seqT_mono {a : Addr} {xs : List V} (e : Same F F') (h : SqT K F a xs) : SqT K F' a xs := by
  rcases h with (h | ⟨o, h⟩) | h
  · exact .inl (.inl (e _ _ h))
  · exact .inl (.inr ⟨o, e _ _ h⟩)
  · exact .inr h
mutual
theorem Rep.mono (e : Same F F') : ∀ {d : D} {v : V}, Rep K mg F d v → Rep K mg F' d v
  | .non, _, h => h
  | .bl _, _, h => h
  | .int _, _, h => h
  | .str _, _, h => h
  | .lst _, _, ⟨a, vs, h1, h2, h3⟩ => ⟨a, vs, h1, e _ _ h2, RepL.mono e h3⟩
  | .tup _, _, ⟨a, vs, h1, h2, h3⟩ => ⟨a, vs, h1, seqT_mono e h2, RepL.mono e h3⟩
  | .scr _, _, ⟨a, h1, h2⟩ => ⟨a, h1, e.seq h2⟩
  | .ob _ _, _, ⟨a, C, dx, vs, h1, h2, h3, h4⟩ => ⟨a, C, dx, vs, h1, h2, e _ _ h3, RepF.mono e h4⟩
theorem RepL.mono (e : Same F F') : ∀ {ds : List D} {vs : List V}, RepL K mg F ds vs → RepL K mg F' ds vs
  | [], _, h => h
  | _ :: _, _, ⟨v, r, h1, h2, h3⟩ => ⟨v, r, h1, Rep.mono e h2, RepL.mono e h3⟩
theorem RepF.mono (e : Same F F') : ∀ {ds : List (Str × D)} {vs : List (Str × V)}, RepF K mg F ds vs → RepF K mg F' ds vs
  | [], _, h => h
  | (_, _) :: _, _, ⟨v, r, h1, h2, h3⟩ => ⟨v, r, h1, Rep.mono e h2, RepF.mono e h3⟩
end
theorem RepL.len : ∀ {ds : List D} {vs : List V}, RepL K mg F ds vs → vs.length = ds.length
  | [], _, h => by rw [show _ = [] from h]; rfl
  | _ :: _, _, ⟨v, r, h1, _, h3⟩ => by rw [h1, List.length_cons, List.length_cons, RepL.len h3]
theorem RepL.nil : RepL K mg F [] [] := rfl
theorem RepL.cons {d : D} {v : V} {ds : List D} {vs : List V} (h : Rep K mg F d v) (t : RepL K mg F ds vs) : RepL K mg F (d :: ds) (v :: vs) := ⟨v, vs, rfl, h, t⟩
theorem RepL.app : ∀ {ds es : List D} {vs ws : List V}, RepL K mg F ds vs → RepL K mg F es ws → RepL K mg F (ds ++ es) (vs ++ ws)
  | [], _, _, _, h, g => by rw [show _ = [] from h]; exact g
  | _ :: _, _, _, _, ⟨v, r, h1, h2, h3⟩, g => by rw [h1]; exact ⟨v, r ++ _, rfl, h2, RepL.app h3 g⟩
theorem RepL.one {d : D} {v : V} (h : Rep K mg F d v) : RepL K mg F [d] [v] := .cons h .nil
theorem RepL.get : ∀ {ds : List D} {vs : List V} {i : Nat} {d : D}, RepL K mg F ds vs → ds[i]? = some d → ∃ v, vs[i]? = some v ∧ Rep K mg F d v
  | [], _, _, _, _, h => by simp at h
  | _ :: _, _, 0, _, ⟨v, r, h1, h2, _⟩, h => by
    rw [h1]
    have e := Option.some.inj h
    subst e
    exact ⟨v, rfl, h2⟩
  | _ :: _, _, i + 1, d, ⟨v, r, h1, _, h3⟩, h => by
    rw [h1]
    obtain ⟨w, g1, g2⟩ := RepL.get (i := i) (d := d) h3 h
    exact ⟨w, g1, g2⟩
theorem RepL.get' : ∀ {ds : List D} {vs : List V} {i : Nat} {v : V}, RepL K mg F ds vs → vs[i]? = some v → ∃ d, ds[i]? = some d ∧ Rep K mg F d v
  | [], _, _, _, h, g => by rw [show _ = [] from h] at g; simp at g
  | d :: _, _, 0, _, ⟨v, r, h1, h2, _⟩, g => by
    rw [h1] at g
    have e := Option.some.inj g
    subst e
    exact ⟨d, rfl, h2⟩
  | _ :: _, _, i + 1, w, ⟨v, r, h1, _, h3⟩, g => by
    rw [h1] at g
    obtain ⟨d, g1, g2⟩ := RepL.get' (i := i) (v := w) h3 g
    exact ⟨d, g1, g2⟩
theorem RepL.set {d : D} {v : V} (h : Rep K mg F d v) : ∀ {ds : List D} {vs : List V} (i : Nat), RepL K mg F ds vs → RepL K mg F (ds.set i d) (vs.set i v)
  | [], _, _, e => by rw [show _ = [] from e]; exact rfl
  | _ :: _, _, 0, ⟨w, r, h1, _, h3⟩ => by rw [h1]; exact ⟨v, r, rfl, h, h3⟩
  | _ :: _, _, i + 1, ⟨w, r, h1, h2, h3⟩ => by rw [h1]; exact ⟨w, r.set i v, rfl, h2, RepL.set h i h3⟩
theorem RepL.take : ∀ {ds : List D} {vs : List V} (n : Nat), RepL K mg F ds vs → RepL K mg F (ds.take n) (vs.take n)
  | _, _, 0, _ => rfl
  | [], _, _ + 1, e => by rw [show _ = [] from e]; exact rfl
  | _ :: _, _, n + 1, ⟨w, r, h1, h2, h3⟩ => by rw [h1]; exact ⟨w, r.take n, rfl, h2, RepL.take n h3⟩
theorem RepL.drop : ∀ {ds : List D} {vs : List V} (n : Nat), RepL K mg F ds vs → RepL K mg F (ds.drop n) (vs.drop n)
  | _, _, 0, h => h
  | [], _, _ + 1, e => by rw [show _ = [] from e]; exact rfl
  | _ :: _, _, n + 1, ⟨w, r, h1, _, h3⟩ => by rw [h1]; exact RepL.drop n h3
theorem RepL.rep {ds : List D} {vs : List V} (h : RepL K mg F ds vs) : ∀ k : Nat, RepL K mg F (List.replicate k ds).flatten (List.replicate k vs).flatten
  | 0 => rfl
  | k + 1 => by rw [List.replicate_succ, List.replicate_succ, List.flatten_cons, List.flatten_cons]; exact h.app (RepL.rep h k)
theorem RepL.ints : ∀ {ns : List Int} {vs : List V}, RepL K mg F (ns.map D.int) vs → vs = ns.map V.int
  | [], _, h => h
  | n :: ns, _, ⟨v, r, h1, h2, h3⟩ => by rw [h1, show v = _ from h2, RepL.ints (ns := ns) h3]; rfl
theorem RepL.of_ints : ∀ (ns : List Int), RepL K mg F (ns.map D.int) (ns.map V.int)
  | [] => rfl
  | n :: ns => ⟨_, _, rfl, rfl, RepL.of_ints ns⟩
theorem RepF.get : ∀ {fs : List (Str × D)} {vs : List (Str × V)} {n : Str} {d : D}, RepF K mg F fs vs → fs.lookup n = some d → ∃ v, vs.lookup n = some v ∧ Rep K mg F d v
  | [], _, _, _, _, h => by simp at h
  | (m, e) :: fs, _, n, d, ⟨v, r, h1, h2, h3⟩, h => by
    rw [h1]
    rw [List.lookup_cons] at h ⊢
    cases hb : n == m with
    | true =>
      rw [hb] at h
      have e := Option.some.inj h
      subst e
      exact ⟨v, rfl, h2⟩
    | false =>
      rw [hb] at h
      exact RepF.get h3 h
theorem RepF.none : ∀ {fs : List (Str × D)} {vs : List (Str × V)} {n : Str}, RepF K mg F fs vs → fs.lookup n = none → vs.lookup n = none
  | [], _, _, h, _ => by rw [show _ = [] from h]; rfl
  | (m, e) :: fs, _, n, ⟨v, r, h1, h2, h3⟩, h => by
    rw [h1]
    rw [List.lookup_cons] at h ⊢
    cases hb : n == m with
    | true => rw [hb] at h; cases h
    | false =>
      rw [hb] at h
      exact RepF.none h3 h
theorem RepF.len : ∀ {fs : List (Str × D)} {vs : List (Str × V)}, RepF K mg F fs vs → vs.length = fs.length
  | [], _, h => by rw [show _ = [] from h]; rfl
  | (_, _) :: _, _, ⟨v, r, h1, _, h3⟩ => by rw [h1, List.length_cons, List.length_cons, RepF.len h3]
end
inductive LV where
  | no | sh (d : D) | bw (d : D) | ow (ds : List D) | oo (x dx : Addr) (c : Str) (fs : List (Str × D)) | nw (dss : List (List D))
abbrev Env := List LV
def RepN (K : PySem.W.Frag) (mg : Mg) (H0 F H : Hp) : List (List D) → List Addr → Prop
  | [], bs => bs = []
  | ds :: dss, bs => ∃ b r ws, bs = b :: r ∧ H0 b = none ∧ F b = none ∧ H b = some (.lst ws) ∧ RepL K mg F ds ws ∧ RepN K mg H0 F H dss r
def SlotOk (K : PySem.W.Frag) (mg : Mg) (H0 F H : Hp) : LV → Option (Option V) → Prop
  | .no, _ => True
  | .sh d, s => ∃ v, s = some (some v) ∧ Rep K mg F d v
  | .bw d, s => ∃ v, s = some (some v) ∧ Rep K mg H0 d v
  | .ow ds, s => ∃ a vs, s = some (some (.ref a)) ∧ H0 a = none ∧ F a = none ∧ H a = some (.lst vs) ∧ RepL K mg F ds vs
  | .oo a dx c fs, s => ∃ C vs, s = some (some (.ref a)) ∧ mg c = some (.ref C) ∧ H0 a = none ∧ F a = none ∧ H a = some (.ins C dx vs) ∧ RepF K mg F fs vs
  | .nw dss, s => ∃ a bs, s = some (some (.ref a)) ∧ H0 a = none ∧ F a = none ∧ H a = some (.lst (bs.map V.ref)) ∧ a ∉ bs ∧ bs.Nodup ∧ RepN K mg H0 F H dss bs
def Own (H : Hp) : LV → Option (Option V) → Addr → Prop
  | .ow _, s, b => s = some (some (.ref b))
  | .oo _ _ _ _, s, b => s = some (some (.ref b))
  | .nw _, s, b => s = some (some (.ref b)) ∨ ∃ a vs, s = some (some (.ref a)) ∧ H a = some (.lst vs) ∧ V.ref b ∈ vs
  | _, _, _ => False
structure SR (K : PySem.W.Frag) (mg : Mg) (F0 H0 : Hp) (ρ : Env) (F : Hp) (σ : St) (H : Hp) : Prop where
  len : ρ.length = σ.length
  f0 : Same F0 F
  fh : Same F H
  h0 : Same H0 H
  nw : ∀ a o, F a = some o → H0 a = none ∨ F0 a = some o
  at_ : ∀ (i : Nat) (lv : LV), ρ[i]? = some lv → SlotOk K mg H0 F H lv σ[i]?
  inj : ∀ (i j : Nat) (lv lw : LV) (b : Addr), ρ[i]? = some lv → ρ[j]? = some lw → Own H lv σ[i]? b → Own H lw σ[j]? b → i = j
section
variable {K : PySem.W.Frag} {mg : Mg} {F0 H0 F F' H H' : Hp} {ρ : Env} {σ : St}
theorem RepN.mem : ∀ {dss : List (List D)} {bs : List Addr} {b : Addr}, RepN K mg H0 F H dss bs → b ∈ bs → H0 b = none ∧ F b = none ∧ ∃ ws, H b = some (.lst ws)
  | [], _, _, h, m => by rw [show _ = [] from h] at m; cases m
  | _ :: _, _, b, ⟨c, r, ws, e, h1, h2, h3, _, h5⟩, m => by
    rw [e] at m
    rcases List.mem_cons.mp m with rfl | m
    · exact ⟨h1, h2, ws, h3⟩
    · exact RepN.mem h5 m
theorem RepN.imp {F' H' : Hp} (ff : Same F F') : ∀ {dss : List (List D)} {bs : List Addr}, RepN K mg H0 F H dss bs → (∀ b ∈ bs, ∀ ws, F b = none → H b = some (.lst ws) → F' b = none ∧ H' b = some (.lst ws)) → RepN K mg H0 F' H' dss bs
  | [], _, h, _ => h
  | _ :: _, _, ⟨c, r, ws, e, h1, h2, h3, h4, h5⟩, k => by
    have q := k c (by rw [e]; exact List.mem_cons_self) ws h2 h3
    exact ⟨c, r, ws, e, h1, q.1, q.2, h4.mono ff, RepN.imp ff h5 fun b m => k b (by rw [e]; exact List.mem_cons_of_mem _ m)⟩
theorem RepN.len : ∀ {dss : List (List D)} {bs : List Addr}, RepN K mg H0 F H dss bs → bs.length = dss.length
  | [], _, h => by rw [show _ = [] from h]; rfl
  | _ :: _, _, ⟨c, r, ws, e, _, _, _, _, h5⟩ => by rw [e, List.length_cons, List.length_cons, RepN.len h5]
theorem RepN.get : ∀ {dss : List (List D)} {bs : List Addr} {k : Nat} {ds : List D}, RepN K mg H0 F H dss bs → dss[k]? = some ds → ∃ b ws, bs[k]? = some b ∧ H0 b = none ∧ F b = none ∧ H b = some (.lst ws) ∧ RepL K mg F ds ws
  | [], _, _, _, _, e => by simp at e
  | _ :: _, _, 0, ds, ⟨c, r, ws, e, h1, h2, h3, h4, _⟩, q => by
    cases q
    exact ⟨c, ws, by rw [e]; rfl, h1, h2, h3, h4⟩
  | _ :: _, _, k + 1, ds, ⟨c, r, ws, e, _, _, _, _, h5⟩, q => by
    obtain ⟨b, ws', g1, g2⟩ := RepN.get (k := k) (ds := ds) h5 q
    exact ⟨b, ws', by rw [e]; exact g1, g2⟩
theorem RepN.put {ds : List D} {ws : List V} (r : RepL K mg F ds ws) : ∀ {dss : List (List D)} {bs : List Addr} {k : Nat} {b : Addr}, RepN K mg H0 F H dss bs → bs.Nodup → bs[k]? = some b → RepN K mg H0 F (upd H b (.lst ws)) (dss.set k ds) bs
  | [], _, k, b, h, _, e => by rw [show _ = [] from h] at e; simp at e
  | _ :: dss, _, 0, b, ⟨c, rs, ws', e, h1, h2, h3, h4, h5⟩, nd, q => by
    rw [e] at q nd
    cases q
    refine ⟨_, rs, ws, e, h1, h2, upd_same, r, RepN.imp (Same.refl _) h5 fun x m ws0 f0 e0 => ⟨f0, ?_⟩⟩
    rw [upd_ne (fun z => (List.nodup_cons.mp nd).1 (by rw [← z]; exact m))]
    exact e0
  | _ :: dss, _, k + 1, b, ⟨c, rs, ws', e, h1, h2, h3, h4, h5⟩, nd, q => by
    rw [e] at q nd
    have nd' := List.nodup_cons.mp nd
    refine ⟨c, rs, ws', e, h1, h2, ?_, h4, RepN.put r h5 nd'.2 q⟩
    rw [upd_ne (fun z => nd'.1 (by rw [z]; exact List.mem_of_getElem? q))]
    exact h3
theorem RepN.app {ds : List D} {ws : List V} {b : Addr} (h1 : H0 b = none) (h2 : F b = none) (h3 : H b = some (.lst ws)) (r : RepL K mg F ds ws) : ∀ {dss : List (List D)} {bs : List Addr}, RepN K mg H0 F H dss bs → RepN K mg H0 F H (dss ++ [ds]) (bs ++ [b])
  | [], _, h => by
    rw [show _ = [] from h]
    exact ⟨b, [], ws, rfl, h1, h2, h3, r, rfl⟩
  | _ :: _, _, ⟨c, rs, ws', e, g1, g2, g3, g4, g5⟩ => by
    rw [e]
    exact ⟨c, _, ws', rfl, g1, g2, g3, g4, RepN.app h1 h2 h3 r g5⟩
theorem SlotOk.own {lv : LV} {s : Option (Option V)} {b : Addr} (q : SlotOk K mg H0 F H lv s) (o : Own H lv s b) : F b = none ∧ H0 b = none ∧ H b ≠ none := by
  cases lv with
  | no => cases o
  | sh d => cases o
  | bw d => cases o
  | ow ds =>
    obtain ⟨a, vs, h1, h2, h3, h4, _⟩ := q
    rw [show s = _ from o] at h1
    cases h1
    exact ⟨h3, h2, by rw [h4]; exact fun z => nomatch z⟩
  | oo a dx c fs =>
    obtain ⟨C, vs, h1, _, h2, h3, h4, _⟩ := q
    rw [show s = _ from o] at h1
    cases h1
    exact ⟨h3, h2, by rw [h4]; exact fun z => nomatch z⟩
  | nw dss =>
    obtain ⟨a, bs, h1, h2, h3, h4, h5, h6, h7⟩ := q
    rcases o with o | ⟨a', vs, o1, o2, o3⟩
    · rw [o] at h1
      cases h1
      exact ⟨h3, h2, by rw [h4]; exact fun z => nomatch z⟩
    · rw [o1] at h1
      cases h1
      rw [h4] at o2
      cases o2
      obtain ⟨b', m, e⟩ := List.mem_map.mp o3
      cases e
      obtain ⟨g1, g2, ws, g3⟩ := h7.mem m
      exact ⟨g2, g1, by rw [g3]; exact fun z => nomatch z⟩
theorem SR.ownF {i : Nat} {lv : LV} {a : Addr} (S : SR K mg F0 H0 ρ F σ H) (h : ρ[i]? = some lv) (o : Own H lv σ[i]? a) : F a = none ∧ H0 a = none ∧ H a ≠ none := (S.at_ i lv h).own o
theorem SlotOk.keep {lv : LV} {s : Option (Option V)} (q : SlotOk K mg H0 F H lv s) (ff : Same F F') (k : ∀ b o, Own H lv s b → H b = some o → F b = none → F' b = none ∧ H' b = some o) :
    SlotOk K mg H0 F' H' lv s ∧ ∀ b, Own H' lv s b → Own H lv s b := by
  cases lv with
  | no => exact ⟨True.intro, fun _ o => o⟩
  | sh d =>
    obtain ⟨v, h1, h2⟩ := q
    exact ⟨⟨v, h1, h2.mono ff⟩, fun _ o => o⟩
  | bw d => exact ⟨q, fun _ o => o⟩
  | ow ds =>
    obtain ⟨a, vs, h1, h2, h3, h4, h5⟩ := q
    have z := k a _ h1 h4 h3
    exact ⟨⟨a, vs, h1, h2, z.1, z.2, h5.mono ff⟩, fun _ o => o⟩
  | oo a dx c fs =>
    obtain ⟨C, vs, h1, hm, h2, h3, h4, h5⟩ := q
    have z := k a _ h1 h4 h3
    exact ⟨⟨C, vs, h1, hm, h2, z.1, z.2, h5.mono ff⟩, fun _ o => o⟩
  | nw dss =>
    obtain ⟨a, bs, h1, h2, h3, h4, h5, h6, h7⟩ := q
    have z := k a _ (.inl h1) h4 h3
    refine ⟨⟨a, bs, h1, h2, z.1, z.2, h5, h6, RepN.imp ff h7 fun b m ws f e => k b _ (.inr ⟨a, _, h1, h4, List.mem_map.mpr ⟨b, m, rfl⟩⟩) e f⟩, fun b o => ?_⟩
    rcases o with o | ⟨a', vs, o1, o2, o3⟩
    · exact .inl o
    · rw [h1] at o1
      cases o1
      rw [z.2] at o2
      cases o2
      exact .inr ⟨a, _, h1, h4, o3⟩
theorem SR.grow (S : SR K mg F0 H0 ρ F σ H) (ff : Same F F') (hh : Same H H') (fh : Same F' H') (nw : ∀ a, H a ≠ none → F a = none → F' a = none) : SR K mg F0 H0 ρ F' σ H' := by
  have key : ∀ (i : Nat) (lv : LV), ρ[i]? = some lv → SlotOk K mg H0 F' H' lv σ[i]? ∧ ∀ b, Own H' lv σ[i]? b → Own H lv σ[i]? b := fun i lv e =>
    (S.at_ i lv e).keep ff fun b o ow hb fb => ⟨nw b (by rw [hb]; exact fun z => nomatch z) fb, hh _ _ hb⟩
  refine ⟨S.len, S.f0.trans ff, fh, S.h0.trans hh, fun a o e => ?_, fun i lv e => (key i lv e).1, fun i j lv lw b e1 e2 o1 o2 => S.inj i j lv lw b e1 e2 ((key i lv e1).2 b o1) ((key j lw e2).2 b o2)⟩
  cases h : H0 a with
  | none => exact .inl rfl
  | some u =>
    have h1 : H a = some u := S.h0 _ _ h
    cases h2 : F a with
    | none =>
      have := nw a (by rw [h1]; exact fun z => nomatch z) h2
      rw [this] at e
      cases e
    | some w =>
      have h3 := ff _ _ h2
      rw [e] at h3
      cases h3
      rcases S.nw a o h2 with z | z
      · rw [h] at z; cases z
      · exact .inr z
theorem same_new {H : Hp} {p : Addr} {o : HO} (h : H p = none) : Same H (upd H p o) := fun a u e => by
  rw [upd_ne (ne_of_none e h)]
  exact e
theorem SR.new (S : SR K mg F0 H0 ρ F σ H) {p : Addr} {o : HO} (h : H p = none) : SR K mg F0 H0 ρ (upd F p o) σ (upd H p o) ∧ Same F (upd F p o) := by
  have hf : F p = none := S.fh.free h
  refine ⟨S.grow (same_new hf) (same_new h) (fun a u e => ?_) (fun a h1 h2 => ?_), same_new hf⟩
  · by_cases q : a = p
    · subst q
      rw [upd_same] at e ⊢
      exact e
    · rw [upd_ne q] at e ⊢
      exact S.fh _ _ e
  · have q : a ≠ p := fun z => by rw [z] at h1; exact h1 h
    rw [upd_ne q]
    exact h2
theorem SR.newH (S : SR K mg F0 H0 ρ F σ H) {p : Addr} {o : HO} (h : H p = none) : SR K mg F0 H0 ρ F σ (upd H p o) := by
  exact S.grow (Same.refl _) (same_new h) (S.fh.trans (same_new h)) (fun _ _ z => z)
theorem SR.put (S : SR K mg F0 H0 ρ F σ H) {i : Nat} {lv : LV} {s : Option V} (hi : i < ρ.length) (h : SlotOk K mg H0 F H lv (some s)) (hn : ∀ j lw b, j ≠ i → ρ[j]? = some lw → Own H lv (some s) b → ¬ Own H lw σ[j]? b) : SR K mg F0 H0 (ρ.set i lv) F (σ.set i s) H := by
  have hi' : i < σ.length := by rw [← S.len]; exact hi
  refine ⟨by rw [List.length_set, List.length_set]; exact S.len, S.f0, S.fh, S.h0, S.nw, fun j lw e => ?_, fun j k lw lx b e1 e2 o1 o2 => ?_⟩
  · by_cases q : i = j
    · subst q
      rw [List.getElem?_set_self hi] at e
      cases e
      rw [List.getElem?_set_self hi']
      exact h
    · rw [List.getElem?_set_ne q] at e ⊢
      exact S.at_ j lw e
  · by_cases q : i = j
    · by_cases q2 : i = k
      · exact q.symm.trans q2
      · subst q
        rw [List.getElem?_set_self hi] at e1
        cases e1
        rw [List.getElem?_set_self hi'] at o1
        rw [List.getElem?_set_ne q2] at e2 o2
        exact absurd o2 (hn k lx b (Ne.symm q2) e2 o1)
    · by_cases q2 : i = k
      · subst q2
        rw [List.getElem?_set_self hi] at e2
        cases e2
        rw [List.getElem?_set_self hi'] at o2
        rw [List.getElem?_set_ne q] at e1 o1
        exact absurd o1 (hn j lw b (Ne.symm q) e1 o2)
      · rw [List.getElem?_set_ne q] at e1 o1
        rw [List.getElem?_set_ne q2] at e2 o2
        exact S.inj j k lw lx b e1 e2 o1 o2
theorem SR.set (S : SR K mg F0 H0 ρ F σ H) {i : Nat} {d : D} {v : V} (hi : i < ρ.length) (h : Rep K mg F d v) : SR K mg F0 H0 (ρ.set i (.sh d)) F (σ.set i (some v)) H :=
  S.put hi ⟨v, rfl, h⟩ fun _ _ _ _ _ o => o.elim
theorem SR.forget (S : SR K mg F0 H0 ρ F σ H) {i : Nat} {s : Option V} : SR K mg F0 H0 (ρ.set i .no) F (σ.set i s) H := by
  by_cases hi : i < ρ.length
  · exact S.put hi True.intro fun _ _ _ _ _ o => o.elim
  · rw [List.set_eq_of_length_le (by omega), List.set_eq_of_length_le (by rw [← S.len]; omega)]
    exact S
theorem SR.setO (S : SR K mg F0 H0 ρ F σ H) {i : Nat} {ds : List D} {a : Addr} {vs : List V} (hi : i < ρ.length) (h0 : H0 a = none) (hf : F a = none) (hH : H a = some (.lst vs)) (h : RepL K mg F ds vs)
    (hn : ∀ (j : Nat) (lv : LV), ρ[j]? = some lv → ¬ Own H lv σ[j]? a) : SR K mg F0 H0 (ρ.set i (.ow ds)) F (σ.set i (some (.ref a))) H :=
  S.put hi ⟨a, vs, rfl, h0, hf, hH, h⟩ fun j lw b _ e o => by
    have o' : some (some (V.ref a)) = some (some (V.ref b)) := o
    cases o'
    exact hn j lw e
theorem SR.write (S : SR K mg F0 H0 ρ F σ H) {i : Nat} {lv lw : LV} {a : Addr} {o : HO} (e : ρ[i]? = some lv) (ow : Own H lv σ[i]? a) (h : SlotOk K mg H0 F (upd H a o) lw σ[i]?) (ow2 : ∀ b, Own (upd H a o) lw σ[i]? b → Own H lv σ[i]? b ∨ ∀ j lx, j ≠ i → ρ[j]? = some lx → ¬ Own H lx σ[j]? b) :
    SR K mg F0 H0 (ρ.set i lw) F σ (upd H a o) := by
  obtain ⟨f, z, _⟩ := S.ownF e ow
  have hi : i < ρ.length := (List.getElem?_eq_some_iff.mp e).1
  have key : ∀ (j : Nat) (lx : LV), i ≠ j → ρ[j]? = some lx → SlotOk K mg H0 F (upd H a o) lx σ[j]? ∧ ∀ b, Own (upd H a o) lx σ[j]? b → Own H lx σ[j]? b := fun j lx qi q =>
    (S.at_ j lx q).keep (Same.refl _) fun b u ob hb fb => ⟨fb, by
      rw [upd_ne (fun z => qi (S.inj i j lv lx a e q ow (by rw [← z]; exact ob)))]
      exact hb⟩
  refine ⟨by rw [List.length_set]; exact S.len, S.f0, fun b u q => ?_, fun b u q => ?_, S.nw, fun j lx q => ?_, fun j k lx ly b e1 e2 o1 o2 => ?_⟩
  · rw [upd_ne (ne_of_none q f)]
    exact S.fh _ _ q
  · rw [upd_ne (ne_of_none q z)]
    exact S.h0 _ _ q
  · by_cases qi : i = j
    · subst qi
      rw [List.getElem?_set_self hi] at q
      cases q
      exact h
    · rw [List.getElem?_set_ne qi] at q
      exact (key j lx qi q).1
  · by_cases q1 : i = j
    · by_cases q2 : i = k
      · exact q1.symm.trans q2
      · subst q1
        rw [List.getElem?_set_self hi] at e1
        cases e1
        rw [List.getElem?_set_ne q2] at e2
        have o2' := (key k ly q2 e2).2 b o2
        rcases ow2 b o1 with w | w
        · exact S.inj i k lv ly b e e2 w o2'
        · exact absurd o2' (w k ly (Ne.symm q2) e2)
    · by_cases q2 : i = k
      · subst q2
        rw [List.getElem?_set_self hi] at e2
        cases e2
        rw [List.getElem?_set_ne q1] at e1
        have o1' := (key j lx q1 e1).2 b o1
        rcases ow2 b o2 with w | w
        · exact S.inj j i lx lv b e1 e o1' w
        · exact absurd o1' (w j lx (Ne.symm q1) e1)
      · rw [List.getElem?_set_ne q1] at e1
        rw [List.getElem?_set_ne q2] at e2
        exact S.inj j k lx ly b e1 e2 ((key j lx q1 e1).2 b o1) ((key k ly q2 e2).2 b o2)
theorem SR.know (S : SR K mg F0 H0 ρ F σ H) {i : Nat} {lv : LV} {d : D} {v : V} (as : Addr → Prop) (F' : Hp) (e : ρ[i]? = some lv) (ow : ∀ a, as a → Own H lv σ[i]? a) (es : σ[i]? = some (some v))
    (hF1 : ∀ b, as b → F' b = H b) (hF2 : ∀ b, ¬ as b → F' b = F b) (hd : Rep K mg F' d v) : Same F F' ∧ SR K mg F0 H0 (ρ.set i (.sh d)) F' σ H := by
  have hi : i < ρ.length := (List.getElem?_eq_some_iff.mp e).1
  have ff : Same F F' := fun b u q => by
    rw [hF2 b fun z => by rw [(S.ownF e (ow b z)).1] at q; cases q]
    exact q
  have key : ∀ (j : Nat) (lx : LV), i ≠ j → ρ[j]? = some lx → SlotOk K mg H0 F' H lx σ[j]? ∧ ∀ b, Own H lx σ[j]? b → Own H lx σ[j]? b := fun j lx qi q =>
    (S.at_ j lx q).keep ff fun b u ob hb fb => ⟨by
      rw [hF2 b fun z => qi (S.inj i j lv lx b e q (ow b z) ob)]
      exact fb, hb⟩
  refine ⟨ff, by rw [List.length_set]; exact S.len, S.f0.trans ff, fun b u q => ?_, S.h0, fun b u q => ?_, fun j lx q => ?_, fun j k lx ly b e1 e2 o1 o2 => ?_⟩
  · by_cases z : as b
    · rw [hF1 b z] at q
      exact q
    · rw [hF2 b z] at q
      exact S.fh _ _ q
  · by_cases z : as b
    · exact .inl (S.ownF e (ow b z)).2.1
    · rw [hF2 b z] at q
      exact S.nw _ _ q
  · by_cases qi : i = j
    · subst qi
      rw [List.getElem?_set_self hi] at q
      cases q
      exact ⟨v, es, hd⟩
    · rw [List.getElem?_set_ne qi] at q
      exact (key j lx qi q).1
  · by_cases q1 : i = j
    · subst q1
      rw [List.getElem?_set_self hi] at e1
      cases e1
      exact o1.elim
    · by_cases q2 : i = k
      · subst q2
        rw [List.getElem?_set_self hi] at e2
        cases e2
        exact o2.elim
      · rw [List.getElem?_set_ne q1] at e1
        rw [List.getElem?_set_ne q2] at e2
        exact S.inj j k lx ly b e1 e2 o1 o2
end
def frz (i : Nat) (ρ : Env) : Env :=
  match ρ[i]? with
  | some (.ow ds) => ρ.set i (.sh (.lst ds))
  | some (.oo _ _ c fs) => ρ.set i (.sh (.ob c fs))
  | some (.nw dss) => ρ.set i (.sh (.lst (dss.map .lst)))
  | _ => ρ
theorem RepN.rep {K : PySem.W.Frag} {mg : Mg} {H0 F H F' : Hp} (ff : Same F F') : ∀ {dss : List (List D)} {bs : List Addr}, RepN K mg H0 F H dss bs → (∀ b ∈ bs, F' b = H b) → RepL K mg F' (dss.map .lst) (bs.map V.ref)
  | [], _, h, _ => by
    rw [show _ = [] from h]
    exact rfl
  | _ :: _, _, ⟨c, r, ws, e, _, _, h3, h4, h5⟩, k => by
    rw [e]
    refine ⟨_, _, rfl, ⟨c, ws, rfl, ?_, h4.mono ff⟩, RepN.rep ff h5 fun b m => k b (by rw [e]; exact List.mem_cons_of_mem _ m)⟩
    rw [k c (by rw [e]; exact List.mem_cons_self)]
    exact h3
theorem SR.frz {K : PySem.W.Frag} {mg : Mg} {F0 H0 F H : Hp} {ρ : Env} {σ : St} (S : SR K mg F0 H0 ρ F σ H) (i : Nat) : ∃ F', Same F F' ∧ SR K mg F0 H0 (frz i ρ) F' σ H := by
  unfold DL.frz
  cases e : ρ[i]? with
  | none => exact ⟨F, Same.refl _, S⟩
  | some lv =>
    cases lv with
    | no => exact ⟨F, Same.refl _, S⟩
    | sh d => exact ⟨F, Same.refl _, S⟩
    | bw d => exact ⟨F, Same.refl _, S⟩
    | ow ds =>
      obtain ⟨a, vs, h1, h2, h3, h4, h5⟩ := S.at_ i _ e
      obtain ⟨ff, S'⟩ := S.know (d := .lst ds) (v := .ref a) (fun b => b = a) (upd F a (.lst vs)) e (fun b z => by rw [z]; exact h1) h1 (fun b z => by rw [z, upd_same, h4]) (fun b z => upd_ne z) ⟨a, vs, rfl, upd_same, h5.mono (same_new h3)⟩
      exact ⟨_, ff, S'⟩
    | oo a dx c fs =>
      obtain ⟨C, vs, h1, hm, h2, h3, h4, h5⟩ := S.at_ i _ e
      obtain ⟨ff, S'⟩ := S.know (d := .ob c fs) (v := .ref a) (fun b => b = a) (upd F a (.ins C dx vs)) e (fun b z => by rw [z]; exact h1) h1 (fun b z => by rw [z, upd_same, h4]) (fun b z => upd_ne z) ⟨a, C, dx, vs, rfl, hm, upd_same, h5.mono (same_new h3)⟩
      exact ⟨_, ff, S'⟩
    | nw dss =>
      obtain ⟨a, bs, h1, h2, h3, h4, h5, h6, h7⟩ := S.at_ i _ e
      have own : ∀ b, (b = a ∨ b ∈ bs) → Own H (.nw dss) σ[i]? b := fun b z => by
        rcases z with z | z
        · rw [z]
          exact .inl h1
        · exact .inr ⟨a, _, h1, h4, List.mem_map.mpr ⟨b, z, rfl⟩⟩
      have ff : Same F (fun b => if b = a ∨ b ∈ bs then H b else F b) := fun b u q => by
        show (if b = a ∨ b ∈ bs then H b else F b) = some u
        rw [if_neg fun z => by rw [(S.ownF e (own b z)).1] at q; cases q]
        exact q
      obtain ⟨ff', S'⟩ := S.know (d := .lst (dss.map .lst)) (v := .ref a) (fun b => b = a ∨ b ∈ bs) (fun b => if b = a ∨ b ∈ bs then H b else F b) e own h1 (fun b z => if_pos z) (fun b z => if_neg z)
        ⟨a, _, rfl, by show (if a = a ∨ a ∈ bs then H a else F a) = _; rw [if_pos (.inl rfl)]; exact h4, RepN.rep ff h7 fun b m => if_pos (.inr m)⟩
      exact ⟨_, ff', S'⟩
end DL
namespace DL
open PySem L2
abbrev DE := Env → Option D
abbrev DT := Env → Option Bool
abbrev DA := Env → Option (List D)
structure Gr (F H F' H' : Hp) : Prop where
  ff : Same F F'
  hh : Same H H'
  fh : Same F' H'
  nw : ∀ a, H a ≠ none → F a = none → F' a = none
section
variable {K : PySem.W.Frag} {mg : Mg} {F0 H0 F F1 F2 H H1 H2 : Hp} {ρ : Env} {σ : St}
theorem Gr.refl (h : Same F H) : Gr F H F H := ⟨Same.refl _, Same.refl _, h, fun _ _ z => z⟩
theorem Gr.trans (a : Gr F H F1 H1) (b : Gr F1 H1 F2 H2) : Gr F H F2 H2 :=
  ⟨a.ff.trans b.ff, a.hh.trans b.hh, b.fh, fun x h f => b.nw x (fun z => h (by
    cases q : H x with
    | none => rfl
    | some o => rw [a.hh _ _ q] at z; cases z)) (a.nw x h f)⟩
theorem SR.gr (S : SR K mg F0 H0 ρ F σ H) (g : Gr F H F1 H1) : SR K mg F0 H0 ρ F1 σ H1 := S.grow g.ff g.hh g.fh g.nw
theorem SR.r (S : SR K mg F0 H0 ρ F σ H) : Gr F H F H := Gr.refl S.fh
theorem Gr.new {p : Addr} {o : HO} (fh : Same F H) (h : H p = none) : Gr F H (upd F p o) (upd H p o) := by
  have hf : F p = none := fh.free h
  refine ⟨same_new hf, same_new h, fun a u e => ?_, fun a h1 h2 => ?_⟩
  · by_cases q : a = p
    · subst q
      rw [upd_same] at e ⊢
      exact e
    · rw [upd_ne q] at e ⊢
      exact fh _ _ e
  · have q : a ≠ p := fun z => by rw [z] at h1; exact h1 h
    rw [upd_ne q]
    exact h2
theorem Gr.newH {p : Addr} {o : HO} (fh : Same F H) (h : H p = none) : Gr F H F (upd H p o) :=
  ⟨Same.refl _, same_new h, fh.trans (same_new h), fun _ _ z => z⟩
theorem Gr.know {p : Addr} {o : HO} (g : Gr F H F1 H1) (h : H p = none) (f : F1 p = none) (e : H1 p = some o) : Gr F H (upd F1 p o) H1 := by
  refine ⟨g.ff.trans (same_new f), g.hh, fun a u q => ?_, fun a h1 h2 => ?_⟩
  · by_cases z : a = p
    · subst z
      rw [upd_same] at q
      cases q
      exact e
    · rw [upd_ne z] at q
      exact g.fh _ _ q
  · have z : a ≠ p := fun z => h1 (by rw [z]; exact h)
    rw [upd_ne z]
    exact g.nw a h1 h2
end
def RepV (K : PySem.W.Frag) (mg : Mg) (F H : Hp) : D → V → Prop
  | .lst ds, v => ∃ a vs, v = .ref a ∧ H a = some (.lst vs) ∧ RepL K mg F ds vs
  | d, v => Rep K mg F d v
theorem Rep.v {K : PySem.W.Frag} {mg : Mg} {F H : Hp} {d : D} {v : V} (fh : Same F H) (h : Rep K mg F d v) : RepV K mg F H d v := by
  cases d with
  | lst ds =>
    obtain ⟨a, vs, h1, h2, h3⟩ := h
    exact ⟨a, vs, h1, fh _ _ h2, h3⟩
  | _ => exact h
theorem RepV.gr {K : PySem.W.Frag} {mg : Mg} {F H F1 H1 : Hp} {d : D} {v : V} (g : Gr F H F1 H1) (h : RepV K mg F H d v) : RepV K mg F1 H1 d v := by
  cases d with
  | lst ds =>
    obtain ⟨a, vs, h1, h2, h3⟩ := h
    exact ⟨a, vs, h1, g.hh _ _ h2, h3.mono g.ff⟩
  | non => exact h
  | bl b => exact h
  | int i => exact h
  | str x => exact h
  | tup ds => exact Rep.mono (d := .tup ds) g.ff h
  | scr ns => exact Rep.mono (mg := mg) (d := .scr ns) g.ff h
  | ob c fs => exact Rep.mono (d := .ob c fs) g.ff h
section
variable {K : PySem.W.Frag} {mg : Mg} {F H : Hp} {v : V}
theorem RepV.int {i : Int} (h : RepV K mg F H (.int i) v) : v = .int i := h
theorem RepV.bl {b : Bool} (h : RepV K mg F H (.bl b) v) : v = .bl b := h
theorem RepV.str {x : Str} (h : RepV K mg F H (.str x) v) : v = .str x := h
theorem RepV.non (h : RepV K mg F H .non v) : v = .non := h
theorem RepV.lst {ds : List D} (h : RepV K mg F H (.lst ds) v) : ∃ a vs, v = .ref a ∧ H a = some (.lst vs) ∧ RepL K mg F ds vs := h
theorem RepV.tup {ds : List D} (h : RepV K mg F H (.tup ds) v) : ∃ a vs, v = .ref a ∧ SqT K F a vs ∧ RepL K mg F ds vs := h
theorem RepV.scr {ns : List Int} (h : RepV K mg F H (.scr ns) v) : ∃ a, v = .ref a ∧ SqL K F a (ns.map V.int) := h
theorem RepV.ob {c : Str} {fs : List (Str × D)} (h : RepV K mg F H (.ob c fs) v) : ∃ a C dx vs, v = .ref a ∧ mg c = some (.ref C) ∧ F a = some (.ins C dx vs) ∧ RepF K mg F fs vs := h
end
def cE (K : PySem.W.Frag) (mg : Mg) (δ : DE) : TE := fun σ H Q => ∃ F0 H0 ρ F d, SR K mg F0 H0 ρ F σ H ∧ δ ρ = some d ∧ ∀ F' v H', Gr F H F' H' → Rep K mg F' d v → Q v H'
def cV (K : PySem.W.Frag) (mg : Mg) (δ : DE) : TE := fun σ H Q => ∃ F0 H0 ρ F d, SR K mg F0 H0 ρ F σ H ∧ δ ρ = some d ∧ ∀ F' v H', Gr F H F' H' → RepV K mg F' H' d v → Q v H'
def cO (K : PySem.W.Frag) (mg : Mg) (δ : DA) : TE := fun σ H Q => ∃ F0 H0 ρ F ds, SR K mg F0 H0 ρ F σ H ∧ δ ρ = some ds ∧ ∀ F' a vs H', Gr F H F' H' → H a = none → F' a = none → H' a = some (.lst vs) → RepL K mg F' ds vs → Q (.ref a) H'
def cT (K : PySem.W.Frag) (mg : Mg) (δ : DT) : TT := fun σ H Q => ∃ F0 H0 ρ F b, SR K mg F0 H0 ρ F σ H ∧ δ ρ = some b ∧ ∀ F' H', Gr F H F' H' → Q b H'
def cA (K : PySem.W.Frag) (mg : Mg) (δ : DA) : TA := fun σ H Q => ∃ F0 H0 ρ F ds, SR K mg F0 H0 ρ F σ H ∧ δ ρ = some ds ∧ ∀ F' vs H', Gr F H F' H' → RepL K mg F' ds vs → Q vs H'
def RepVs (K : PySem.W.Frag) (mg : Mg) (F H : Hp) : List D → List V → Prop
  | [], vs => vs = []
  | d :: ds, vs => ∃ v r, vs = v :: r ∧ RepV K mg F H d v ∧ RepVs K mg F H ds r
theorem RepVs.gr {K : PySem.W.Frag} {mg : Mg} {F H F1 H1 : Hp} (g : Gr F H F1 H1) : ∀ {ds : List D} {vs : List V}, RepVs K mg F H ds vs → RepVs K mg F1 H1 ds vs
  | [], _, h => h
  | _ :: _, _, ⟨v, r, h1, h2, h3⟩ => ⟨v, r, h1, h2.gr g, RepVs.gr g h3⟩
def cR (K : PySem.W.Frag) (mg : Mg) (δ : DA) : TA := fun σ H Q => ∃ F0 H0 ρ F ds, SR K mg F0 H0 ρ F σ H ∧ δ ρ = some ds ∧ ∀ F' vs H', Gr F H F' H' → RepVs K mg F' H' ds vs → Q vs H'
abbrev PDE (X : Cx) (e : Expr) (δ : DE) : Prop := PE X e (cE X.K X.mg δ)
abbrev PDV (X : Cx) (e : Expr) (δ : DE) : Prop := PE X e (cV X.K X.mg δ)
abbrev PDO (X : Cx) (e : Expr) (δ : DA) : Prop := PE X e (cO X.K X.mg δ)
abbrev PDT (X : Cx) (e : Expr) (δ : DT) : Prop := PT X e (cT X.K X.mg δ)
abbrev PDA (X : Cx) (es : List Expr) (δ : DA) : Prop := PA X es (cA X.K X.mg δ)
abbrev PDR (X : Cx) (es : List Expr) (δ : DA) : Prop := PA X es (cR X.K X.mg δ)
theorem _root_.L2.PE.imp {X : Cx} {e : Expr} {t t' : TE} (h : PE X e t) (i : ∀ σ H Q, t' σ H Q → t σ H Q) : PE X e t' := ⟨fun pins s σ H Q I q => h.run pins s σ H Q I (i σ H Q q)⟩
theorem _root_.L2.PT.imp {X : Cx} {e : Expr} {t t' : TT} (h : PT X e t) (i : ∀ σ H Q, t' σ H Q → t σ H Q) : PT X e t' := ⟨fun pins s σ H Q I q => h.run pins s σ H Q I (i σ H Q q)⟩
theorem _root_.L2.PW.imp {X : Cx} {e : Expr} {t t' : TT} (h : PW X e t) (i : ∀ σ H Q, t' σ H Q → t σ H Q) : PW X e t' := ⟨fun wh pins s σ H Q I q => h.run wh pins s σ H Q I (i σ H Q q)⟩
theorem _root_.L2.PA.imp {X : Cx} {es : List Expr} {t t' : TA} (h : PA X es t) (i : ∀ σ H Q, t' σ H Q → t σ H Q) : PA X es t' := ⟨fun pos pins s σ H Q I q => h.run pos pins s σ H Q I (i σ H Q q)⟩
section
variable {X : Cx} {e a b : Expr} {δ δa δb : DE} {pos : Pos}
theorem pdv (h : PDE X e δ) : PDV X e δ := h.imp fun σ H Q ⟨F0, H0, ρ, F, d, S, hd, q⟩ => ⟨F0, H0, ρ, F, d, S, hd, fun F' v H' g r => q F' v H' g (r.v g.fh)⟩
def oE (δ : DA) : DE := fun ρ => match δ ρ with
  | some ds => some (.lst ds)
  | none => none
theorem pde_o {δ : DA} (h : PDO X e δ) : PDE X e (oE δ) := h.imp fun σ H Q ⟨F0, H0, ρ, F, d, S, hd, q⟩ => by
  unfold oE at hd
  cases hq : δ ρ with
  | none => rw [hq] at hd; cases hd
  | some ds =>
    rw [hq] at hd
    cases hd
    exact ⟨F0, H0, ρ, F, ds, S, hq, fun F' a vs H' g ha hf hH r => q _ _ _ (g.know ha hf hH) ⟨a, vs, rfl, upd_same, r.mono (same_new hf)⟩⟩
def vE (i : Nat) : DE := fun ρ => match ρ[i]? with
  | some (.sh d) => some d
  | _ => none
def vV (i : Nat) : DE := fun ρ => match ρ[i]? with
  | some (.sh d) => some d
  | some (.ow ds) => some (.lst ds)
  | _ => none
def kE (d : D) : DE := fun _ => some d
theorem pde_var {x : Str} (i : Nat) (hN : X.N[i]? = some x := by rfl) (hv : Vis X.env.scope x := by first | exact Or.inl rfl | exact Or.inr (Or.inl rfl) | exact Or.inr (Or.inr rfl)) (hd : (x == ("__debug__" : Str)) = false := by decide)
    (hcd : (x == ("__classdict__" : Str)) = false := by decide) : PDE X (.Name x pos) (vE i) := (pe_var hN hv hd hcd).imp fun σ H Q ⟨F0, H0, ρ, F, d, S, hd, q⟩ => by
  unfold vE at hd
  split at hd
  · rename_i d' e
    cases hd
    obtain ⟨v, h1, h2⟩ := S.at_ i _ e
    exact ⟨v, h1, q F v H S.r h2⟩
  · cases hd
theorem pdv_var {x : Str} (i : Nat) (hN : X.N[i]? = some x := by rfl) (hv : Vis X.env.scope x := by first | exact Or.inl rfl | exact Or.inr (Or.inl rfl) | exact Or.inr (Or.inr rfl)) (hd : (x == ("__debug__" : Str)) = false := by decide)
    (hcd : (x == ("__classdict__" : Str)) = false := by decide) : PDV X (.Name x pos) (vV i) := (pe_var hN hv hd hcd).imp fun σ H Q ⟨F0, H0, ρ, F, d, S, hd, q⟩ => by
  unfold vV at hd
  split at hd
  · rename_i d' e
    cases hd
    obtain ⟨v, h1, h2⟩ := S.at_ i _ e
    exact ⟨v, h1, q F v H S.r (h2.v S.fh)⟩
  · rename_i ds e
    cases hd
    obtain ⟨a, vs, h1, h2, h3, h4, h5⟩ := S.at_ i _ e
    exact ⟨_, h1, q F _ H S.r ⟨a, vs, rfl, h4, h5⟩⟩
  · cases hd
theorem pde_c {v : V} {d : D} (h : PE X e (tC v)) (r : ∀ F, Rep X.K X.mg F d v) : PDE X e (kE d) := h.imp fun σ H Q ⟨F0, H0, ρ, F, d', S, hd, q⟩ => by
  cases hd
  exact q F v H S.r (r F)
theorem pde_int {i : Int} {j} : PDE X (.Constant (.int i) j pos) (kE (.int i)) := pde_c pe_int fun _ => rfl
theorem pde_bl {b : Bool} {j} : PDE X (.Constant (.bool b) j pos) (kE (.bl b)) := pde_c pe_bl fun _ => rfl
theorem pde_non {j} : PDE X (.Constant .none j pos) (kE .non) := pde_c pe_non fun _ => rfl
theorem pde_str {x : Str} {j} : PDE X (.Constant (.str x) j pos) (kE (.str x)) := pde_c pe_str fun _ => rfl
def op2 (f : D → D → Option D) (δa δb : DE) : DE := fun ρ => match δa ρ with
  | some x => match δb ρ with
    | some y => f x y
    | none => none
  | none => none
def OpD (K : PySem.W.Frag) (mg : Mg) (r : R2) (f : D → D → Option D) : Prop :=
  ∀ (F H : Hp) (x y : V) (d e z : D) (Q : VK), Same F H → RepV K mg F H d x → RepV K mg F H e y → f d e = some z → (∀ F' v H', Gr F H F' H' → Rep K mg F' z v → Q v H') → r x y H Q
theorem op2_of {K : PySem.W.Frag} {mg : Mg} {r : R2} {f : D → D → Option D} (hf : OpD K mg r f) (σ : St) (H : Hp) (Q : VK) (h : cE K mg (op2 f δa δb) σ H Q) : tOp r (cV K mg δa) (cV K mg δb) σ H Q := by
  obtain ⟨F0, H0, ρ, F, z, S, hd, q⟩ := h
  unfold op2 at hd
  split at hd
  · rename_i x ex
    split at hd
    · rename_i y ey
      refine ⟨F0, H0, ρ, F, x, S, ex, fun F1 v H1 g1 r1 => ?_⟩
      refine ⟨F0, H0, ρ, F1, y, S.gr g1, ey, fun F2 u H2 g2 r2 => ?_⟩
      exact hf F2 H2 v u x y z Q g2.fh (r1.gr g2) r2 hd fun F' w H' g3 r3 => q F' w H' ((g1.trans g2).trans g3) r3
    · cases hd
  · cases hd
theorem pde_op {op : Operator} {r : R2} {f : D → D → Option D} (ho : OpR X (binaryOp op) r) (hf : OpD X.K X.mg r f) (ha : PDV X a δa) (hb : PDV X b δb) : PDE X (.BinOp a op b pos) (op2 f δa δb) :=
  (pe_op ho ha hb).imp (op2_of hf)
theorem pde_cmp {op : CmpOp} {r : R2} {f : D → D → Option D} (ho : OpR X (compareOp op) r) (hf : OpD X.K X.mg r f) (ha : PDV X a δa) (hb : PDV X b δb) (hm : behindInMarks op b = false) : PDE X (.Compare a [op] [b] pos) (op2 f δa δb) :=
  (pe_cmpR ho ha hb hm).imp (op2_of hf)
def tE (δ : DE) : DT := fun ρ => match δ ρ with
  | some (.bl b) => some b
  | _ => none
theorem cE_test {K : PySem.W.Frag} {mg : Mg} {δ : DE} {t : TE} (hi : ∀ σ H Q, cE K mg δ σ H Q → t σ H Q) (σ : St) (H : Hp) (Q : Bool → Hp → Prop) (h : cT K mg (tE δ) σ H Q) : tTest t σ H Q := by
  obtain ⟨F0, H0, ρ, F, b, S, hd, q⟩ := h
  unfold tE at hd
  split at hd
  · rename_i b' e
    cases hd
    exact hi _ _ _ ⟨F0, H0, ρ, F, .bl b, S, e, fun F' v H' g r => ⟨b, r, q F' H' g⟩⟩
  · cases hd
theorem pdt_cmp {op : CmpOp} {r : R2} {f : D → D → Option D} (ho : OpR X (compareOp op) r) (hf : OpD X.K X.mg r f) (ha : PDV X a δa) (hb : PDV X b δb) (hm : behindInMarks op b = false) : PDT X (.Compare a [op] [b] pos) (tE (op2 f δa δb)) :=
  (pt_cmpR ho ha hb hm).imp (cE_test (op2_of hf))
theorem pdt_val (h : PDE X e δ) (he : ∀ whole, isTrue e X.env whole = (do let v ← whole; standAt e.pos; holding [v] (truthy v)) := by intro _; rfl) : PDT X e (tE δ) :=
  (pt_val h he).imp fun σ H Q h => cE_test (t := cE X.K X.mg δ) (fun _ _ _ z => z) σ H Q h
def iI (f : Int → Int → Int) : D → D → Option D
  | .int i, .int j => some (.int (f i j))
  | _, _ => none
def iB (f : Int → Int → Bool) : D → D → Option D
  | .int i, .int j => some (.bl (f i j))
  | _, _ => none
theorem opd_I {K : PySem.W.Frag} {mg : Mg} {f : Int → Int → Int} : OpD K mg (rI0 fun i j => .int (f i j)) (iI f) := fun F H x y d e z Q fh r1 r2 h q => by
  unfold iI at h
  split at h
  · cases h
    exact ⟨_, _, r1, r2, q F _ H (Gr.refl fh) rfl⟩
  · cases h
theorem opd_B {K : PySem.W.Frag} {mg : Mg} {f : Int → Int → Bool} : OpD K mg (rI0 fun i j => .bl (f i j)) (iB f) := fun F H x y d e z Q fh r1 r2 h q => by
  unfold iB at h
  split at h
  · cases h
    exact ⟨_, _, r1, r2, q F _ H (Gr.refl fh) rfl⟩
  · cases h
def dAdd : D → D → Option D
  | .int i, .int j => some (.int (i + j))
  | .str x, .str y => if x.length + y.length ≤ sizeLine then some (.str (x ++ y)) else none
  | .lst xs, .lst ys => if xs.length + ys.length ≤ sizeLine then some (.lst (xs ++ ys)) else none
  | .tup xs, .tup ys => if xs.length + ys.length ≤ sizeLine then some (.tup (xs ++ ys)) else none
  | _, _ => none
def rAddA (K : PySem.W.Frag) : R2 := fun x y H Q => (rI0 (fun i j => .int (i + j)) x y H Q ∨ (∃ i j, x = .str i ∧ y = .str j ∧ i.length + j.length ≤ sizeLine ∧ Q (.str (i ++ j)) H)) ∨ (rCat x y H Q ∨ rCatA K x y H Q)
theorem op_addA : OpR X (binaryOp .Add) (rAddA X.K) := OpR.or (OpR.or op_add op_add_str) (OpR.or op_cat op_catA)
theorem opd_add {K : PySem.W.Frag} {mg : Mg} : OpD K mg (rAddA K) dAdd := fun F H x y d e z Q fh r1 r2 h q => by
  unfold dAdd at h
  split at h
  · cases h
    exact .inl (.inl ⟨_, _, r1, r2, q F _ H (Gr.refl fh) rfl⟩)
  · split at h
    · rename_i hl
      cases h
      exact .inl (.inr ⟨_, _, r1, r2, hl, q F _ H (Gr.refl fh) rfl⟩)
    · cases h
  · split at h
    · rename_i hl
      cases h
      obtain ⟨a, vs, rfl, h1, h2⟩ := r1.lst
      obtain ⟨b, ws, rfl, h3, h4⟩ := r2.lst
      refine .inr (.inl ⟨a, b, vs, ws, rfl, rfl, h1, h3, by rw [h2.len, h4.len]; exact hl, fun p hp => ?_⟩)
      exact q _ _ _ (Gr.new fh hp) ⟨p, _, rfl, upd_same, (h2.app h4).mono (same_new (fh.free hp))⟩
    · cases h
  · split at h
    · rename_i xs ys hl
      cases h
      obtain ⟨a, vs, rfl, h1, h2⟩ := r1.tup
      obtain ⟨b, ws, rfl, h3, h4⟩ := r2.tup
      refine .inr (.inr ⟨a, b, vs, ws, rfl, rfl, seqT_mono fh h1, seqT_mono fh h3, by rw [h2.len, h4.len]; exact hl, fun e => ?_, fun _ e => ?_, fun _ _ p hp => ?_⟩)
      · have e1 := h2.len
        rw [e] at e1
        have e2 : xs = [] := List.eq_nil_of_length_eq_zero e1.symm
        subst e2
        exact q F _ H (Gr.refl fh) ⟨b, ws, rfl, h3, h4⟩
      · have e1 := h4.len
        rw [e] at e1
        have e2 : ys = [] := List.eq_nil_of_length_eq_zero e1.symm
        subst e2
        exact q F _ H (Gr.refl fh) ⟨a, vs, rfl, h1, by rw [List.append_nil]; exact h2⟩
      · exact q _ _ _ (Gr.new fh hp) ⟨p, _, rfl, SqT.of upd_same, (h2.app h4).mono (same_new (fh.free hp))⟩
    · cases h
  · cases h
theorem pde_add (ha : PDV X a δa) (hb : PDV X b δb) : PDE X (.BinOp a .Add b pos) (op2 dAdd δa δb) := pde_op op_addA opd_add ha hb
theorem pde_sub (ha : PDV X a δa) (hb : PDV X b δb) : PDE X (.BinOp a .Sub b pos) (op2 (iI fun i j => i - j) δa δb) := pde_op op_sub opd_I ha hb
def dMul : D → D → Option D
  | .int i, .int j => if i.natAbs.log2 + j.natAbs.log2 < 1000000 then some (.int (i * j)) else none
  | .lst xs, .int k => if -(2 ^ 63) ≤ k ∧ k < 2 ^ 63 ∧ xs.length * k.toNat ≤ sizeLine then some (.lst (List.replicate k.toNat xs).flatten) else none
  | _, _ => none
theorem op_mulA : OpR X (binaryOp .Mult) (fun x y H Q => rI CMulW (fun i j => .int (i * j)) x y H Q ∨ rRep x y H Q) := OpR.or op_mulW op_rep
theorem opd_mul {K : PySem.W.Frag} {mg : Mg} : OpD K mg (fun x y H Q => rI CMulW (fun i j => .int (i * j)) x y H Q ∨ rRep x y H Q) dMul := fun F H x y d e z Q fh r1 r2 h q => by
  unfold dMul at h
  split at h
  · split at h
    · rename_i hl
      cases h
      exact .inl ⟨_, _, r1, r2, hl, q F _ H (Gr.refl fh) rfl⟩
    · cases h
  · split at h
    · rename_i hl
      cases h
      obtain ⟨a, vs, rfl, h1, h2⟩ := r1.lst
      refine .inr ⟨a, _, vs, rfl, r2, h1, hl.1, hl.2.1, by rw [h2.len]; exact hl.2.2, fun p hp => ?_⟩
      exact q _ _ _ (Gr.new fh hp) ⟨p, _, rfl, upd_same, (h2.rep _).mono (same_new (fh.free hp))⟩
    · cases h
  · cases h
theorem pde_mul (ha : PDV X a δa) (hb : PDV X b δb) : PDE X (.BinOp a .Mult b pos) (op2 dMul δa δb) := pde_op op_mulA opd_mul ha hb
def dMod : D → D → Option D
  | .int i, .int j => if 0 < j then some (.int (i % j)) else none
  | _, _ => none
theorem pde_mod (ha : PDV X a δa) (hb : PDV X b δb) : PDE X (.BinOp a .Mod b pos) (op2 dMod δa δb) := pde_op op_mod (fun F H x y d e z Q fh r1 r2 h q => by
  unfold dMod at h
  split at h
  · split at h
    · rename_i hl
      cases h
      exact ⟨_, _, r1, r2, hl, q F _ H (Gr.refl fh) rfl⟩
    · cases h
  · cases h) ha hb
def dDiv : D → D → Option D
  | .int i, .int j => if 0 < j ∧ j < 1073741824 then some (.int (i / j)) else none
  | _, _ => none
theorem pde_div (ha : PDV X a δa) (hb : PDV X b δb) : PDE X (.BinOp a .FloorDiv b pos) (op2 dDiv δa δb) := pde_op op_fdiv (fun F H x y d e z Q fh r1 r2 h q => by
  unfold dDiv at h
  split at h
  · split at h
    · rename_i hl
      cases h
      exact ⟨_, _, r1, r2, hl, q F _ H (Gr.refl fh) rfl⟩
    · cases h
  · cases h) ha hb
def dPow : D → D → Option D
  | .int i, .int j => if 0 ≤ j ∧ j ≤ 1000000 ∧ i.natAbs < 2 ^ 64 then some (.int (i ^ j.toNat)) else none
  | _, _ => none
theorem pde_pow (ha : PDV X a δa) (hb : PDV X b δb) : PDE X (.BinOp a .Pow b pos) (op2 dPow δa δb) := pde_op op_pow (fun F H x y d e z Q fh r1 r2 h q => by
  unfold dPow at h
  split at h
  · split at h
    · rename_i hl
      cases h
      exact ⟨_, _, r1, r2, hl, q F _ H (Gr.refl fh) rfl⟩
    · cases h
  · cases h) ha hb
def un1 (f : D → Option D) (δ : DE) : DE := fun ρ => match δ ρ with
  | some x => f x
  | none => none
def dNeg : D → Option D
  | .int i => some (.int (-i))
  | _ => none
theorem pde_neg (ha : PDV X a δa) : PDE X (.UnaryOp .USub a pos) (un1 dNeg δa) := (pe_un un_neg ha).imp fun σ H Q ⟨F0, H0, ρ, F, z, S, hd, q⟩ => by
  unfold un1 at hd
  split at hd
  · rename_i x ex
    unfold dNeg at hd
    split at hd
    · cases hd
      exact ⟨F0, H0, ρ, F, _, S, ex, fun F1 v H1 g1 r1 => ⟨_, r1, q F1 _ H1 g1 rfl⟩⟩
    · cases hd
  · cases hd
theorem pde_lt (ha : PDV X a δa) (hb : PDV X b δb) : PDE X (.Compare a [.Lt] [b] pos) (op2 (iB fun i j => decide (i < j)) δa δb) := pde_cmp op_lt opd_B ha hb (nomark _)
theorem pde_le (ha : PDV X a δa) (hb : PDV X b δb) : PDE X (.Compare a [.LtE] [b] pos) (op2 (iB fun i j => decide (i ≤ j)) δa δb) := pde_cmp op_le opd_B ha hb (nomark _)
theorem pde_gt (ha : PDV X a δa) (hb : PDV X b δb) : PDE X (.Compare a [.Gt] [b] pos) (op2 (iB fun i j => decide (j < i)) δa δb) := pde_cmp op_gt opd_B ha hb (nomark _)
theorem pde_ge (ha : PDV X a δa) (hb : PDV X b δb) : PDE X (.Compare a [.GtE] [b] pos) (op2 (iB fun i j => decide (j ≤ i)) δa δb) := pde_cmp op_ge opd_B ha hb (nomark _)
theorem pdt_lt (ha : PDV X a δa) (hb : PDV X b δb) : PDT X (.Compare a [.Lt] [b] pos) (tE (op2 (iB fun i j => decide (i < j)) δa δb)) := pdt_cmp op_lt opd_B ha hb (nomark _)
theorem pdt_le (ha : PDV X a δa) (hb : PDV X b δb) : PDT X (.Compare a [.LtE] [b] pos) (tE (op2 (iB fun i j => decide (i ≤ j)) δa δb)) := pdt_cmp op_le opd_B ha hb (nomark _)
theorem pdt_gt (ha : PDV X a δa) (hb : PDV X b δb) : PDT X (.Compare a [.Gt] [b] pos) (tE (op2 (iB fun i j => decide (j < i)) δa δb)) := pdt_cmp op_gt opd_B ha hb (nomark _)
theorem pdt_ge (ha : PDV X a δa) (hb : PDV X b δb) : PDT X (.Compare a [.GtE] [b] pos) (tE (op2 (iB fun i j => decide (j ≤ i)) δa δb)) := pdt_cmp op_ge opd_B ha hb (nomark _)
def dEq : D → D → Option Bool
  | .int i, .int j => some (decide (i = j))
  | .str x, .str y => some (decide (x = y))
  | .bl x, .bl y => some (decide (x = y))
  | .non, .non => some true
  | _, _ => none
def dEqD (d e : D) : Option D := match dEq d e with
  | some b => some (.bl b)
  | none => none
def dNeD (d e : D) : Option D := match dEq d e with
  | some b => some (.bl (!b))
  | none => none
theorem dEq_scal {K : PySem.W.Frag} {mg : Mg} {F H : Hp} {x y : V} {d e : D} {b : Bool} (r1 : RepV K mg F H d x) (r2 : RepV K mg F H e y) (h : dEq d e = some b) : scal x y = true ∧ decide (x = y) = b := by
  unfold dEq at h
  split at h
  · cases h
    rw [r1.int, r2.int]
    exact ⟨rfl, by simp⟩
  · cases h
    rw [r1.str, r2.str]
    exact ⟨rfl, by simp⟩
  · cases h
    rw [r1.bl, r2.bl]
    exact ⟨rfl, by simp⟩
  · cases h
    rw [r1.non, r2.non]
    exact ⟨rfl, by simp⟩
  · cases h
theorem opd_eq {K : PySem.W.Frag} {mg : Mg} : OpD K mg rEq dEqD := fun F H x y d e z Q fh r1 r2 h q => by
  unfold dEqD at h
  split at h
  · rename_i b hb
    cases h
    obtain ⟨h1, h2⟩ := dEq_scal r1 r2 hb
    refine ⟨h1, ?_⟩
    rw [h2]
    exact q F _ H (Gr.refl fh) rfl
  · cases h
theorem opd_ne {K : PySem.W.Frag} {mg : Mg} : OpD K mg rNe dNeD := fun F H x y d e z Q fh r1 r2 h q => by
  unfold dNeD at h
  split at h
  · rename_i b hb
    cases h
    obtain ⟨h1, h2⟩ := dEq_scal r1 r2 hb
    refine ⟨h1, ?_⟩
    rw [h2]
    exact q F _ H (Gr.refl fh) rfl
  · cases h
theorem pde_eq (ha : PDV X a δa) (hb : PDV X b δb) : PDE X (.Compare a [.Eq] [b] pos) (op2 dEqD δa δb) := pde_cmp op_eq opd_eq ha hb (nomark _)
theorem pde_ne (ha : PDV X a δa) (hb : PDV X b δb) : PDE X (.Compare a [.NotEq] [b] pos) (op2 dNeD δa δb) := pde_cmp op_ne opd_ne ha hb (nomark _)
theorem pdt_eq (ha : PDV X a δa) (hb : PDV X b δb) : PDT X (.Compare a [.Eq] [b] pos) (tE (op2 dEqD δa δb)) := pdt_cmp op_eq opd_eq ha hb (nomark _)
theorem pdt_ne (ha : PDV X a δa) (hb : PDV X b δb) : PDT X (.Compare a [.NotEq] [b] pos) (tE (op2 dNeD δa δb)) := pdt_cmp op_ne opd_ne ha hb (nomark _)
def isN : D → Bool
  | .non => true
  | _ => false
theorem isN_of {K : PySem.W.Frag} {mg : Mg} {F H : Hp} {d : D} {v : V} (r : RepV K mg F H d v) : decide (v = .non) = isN d := by
  cases d with
  | non => rw [r.non]; rfl
  | bl b => rw [r.bl]; rfl
  | int i => rw [r.int]; rfl
  | str x => rw [r.str]; rfl
  | lst ds => obtain ⟨a, _, e, _⟩ := r.lst; rw [e]; rfl
  | tup ds => obtain ⟨a, _, e, _⟩ := r.tup; rw [e]; rfl
  | scr ns => obtain ⟨a, e, _⟩ := r.scr; rw [e]; rfl
  | ob c fs => obtain ⟨a, _, _, _, e, _⟩ := r.ob; rw [e]; rfl
def dIsN (x y : D) : Option D := match y with
  | .non => some (.bl (isN x))
  | _ => none
def dNotN (x y : D) : Option D := match y with
  | .non => some (.bl (!isN x))
  | _ => none
theorem opd_isN {K : PySem.W.Frag} {mg : Mg} : OpD K mg (fun x y H Q => y = .non ∧ Q (.bl (decide (x = .non))) H) dIsN := fun F H x y d e z Q fh r1 r2 h q => by
  unfold dIsN at h
  split at h
  · cases h
    refine ⟨r2.non, ?_⟩
    rw [isN_of r1]
    exact q F _ H (Gr.refl fh) rfl
  · cases h
theorem opd_notN {K : PySem.W.Frag} {mg : Mg} : OpD K mg (fun x y H Q => y = .non ∧ Q (.bl (!decide (x = .non))) H) dNotN := fun F H x y d e z Q fh r1 r2 h q => by
  unfold dNotN at h
  split at h
  · cases h
    refine ⟨r2.non, ?_⟩
    rw [isN_of r1]
    exact q F _ H (Gr.refl fh) rfl
  · cases h
theorem pde_is (ha : PDV X a δa) (hb : PDV X b δb) : PDE X (.Compare a [.Is] [b] pos) (op2 dIsN δa δb) := pde_cmp op_isN opd_isN ha hb (nomark _)
theorem pde_isnot (ha : PDV X a δa) (hb : PDV X b δb) : PDE X (.Compare a [.IsNot] [b] pos) (op2 dNotN δa δb) := pde_cmp op_notN opd_notN ha hb (nomark _)
theorem pdt_is (ha : PDV X a δa) (hb : PDV X b δb) : PDT X (.Compare a [.Is] [b] pos) (tE (op2 dIsN δa δb)) := pdt_cmp op_isN opd_isN ha hb (nomark _)
theorem pdt_isnot (ha : PDV X a δa) (hb : PDV X b δb) : PDT X (.Compare a [.IsNot] [b] pos) (tE (op2 dNotN δa δb)) := pdt_cmp op_notN opd_notN ha hb (nomark _)
def ch3 (f g : D → D → Option D) (δa δb δc : DE) : DE := fun ρ => match δa ρ with
  | some x => match δb ρ with
    | some y => match f x y with
      | some (.bl true) => match δc ρ with
        | some z => g y z
        | none => none
      | some (.bl false) => some (.bl false)
      | _ => none
    | none => none
  | none => none
theorem ch3_of {K : PySem.W.Frag} {mg : Mg} {r r' : R2} {f g : D → D → Option D} {δc : DE} (hf : OpD K mg r f) (hg : OpD K mg r' g) (σ : St) (H : Hp) (Q : VK) (h : cE K mg (ch3 f g δa δb δc) σ H Q) : tChain r r' (cV K mg δa) (cV K mg δb) (cV K mg δc) σ H Q := by
  obtain ⟨F0, H0, ρ, F, z, S, hd, q⟩ := h
  unfold ch3 at hd
  split at hd
  · rename_i x ex
    split at hd
    · rename_i y ey
      refine ⟨F0, H0, ρ, F, x, S, ex, fun F1 v H1 g1 r1 => ?_⟩
      refine ⟨F0, H0, ρ, F1, y, S.gr g1, ey, fun F2 u H2 g2 r2 => ?_⟩
      split at hd
      · rename_i e1
        refine hf F2 H2 v u x y (.bl true) _ g2.fh (r1.gr g2) r2 e1 fun F3 w H3 g3 r3 => ⟨true, r3, ?_⟩
        refine iteT ?_
        split at hd
        · rename_i z' ez
          refine ⟨F0, H0, ρ, F3, z', ((S.gr g1).gr g2).gr g3, ez, fun F4 w4 H4 g4 r4 => ?_⟩
          exact hg F4 H4 u w4 y z' z Q g4.fh ((r2.gr g3).gr g4) r4 hd fun F' w H' g5 r5 => q F' w H' ((((g1.trans g2).trans g3).trans g4).trans g5) r5
        · cases hd
      · rename_i e1
        cases hd
        refine hf F2 H2 v u x y (.bl false) _ g2.fh (r1.gr g2) r2 e1 fun F3 w H3 g3 r3 => ⟨false, r3, ?_⟩
        refine iteF ?_
        exact q F3 _ H3 ((g1.trans g2).trans g3) rfl
      · cases hd
    · cases hd
  · cases hd
theorem pde_chain {op op' : CmpOp} {r r' : R2} {f g : D → D → Option D} {c : Expr} {δc : DE} (ho : OpR X (compareOp op) r) (ho' : OpR X (compareOp op') r') (hf : OpD X.K X.mg r f) (hg : OpD X.K X.mg r' g) (ha : PDV X a δa) (hb : PDV X b δb) (hc : PDV X c δc)
    (hm : lastMarks [op, op'] [b, c] = false := by with_unfolding_all rfl) : PDE X (.Compare a [op, op'] [b, c] pos) (ch3 f g δa δb δc) := (pe_chain ho ho' ha hb hc hm).imp (ch3_of hf hg)
theorem pdt_chain {op op' : CmpOp} {r r' : R2} {f g : D → D → Option D} {c : Expr} {δc : DE} (ho : OpR X (compareOp op) r) (ho' : OpR X (compareOp op') r') (hf : OpD X.K X.mg r f) (hg : OpD X.K X.mg r' g) (ha : PDV X a δa) (hb : PDV X b δb) (hc : PDV X c δc)
    (hm : lastMarks [op, op'] [b, c] = false := by with_unfolding_all rfl) : PDT X (.Compare a [op, op'] [b, c] pos) (tE (ch3 f g δa δb δc)) := (pt_chain ho ho' ha hb hc hm).imp (cE_test (ch3_of hf hg))
def andT (δ ε : DT) : DT := fun ρ => match δ ρ with
  | some true => ε ρ
  | some false => some false
  | none => none
def orT (δ ε : DT) : DT := fun ρ => match δ ρ with
  | some true => some true
  | some false => ε ρ
  | none => none
def notT (δ : DT) : DT := fun ρ => match δ ρ with
  | some b => some (!b)
  | none => none
abbrev PDW (X : Cx) (e : Expr) (δ : DT) : Prop := PW X e (cT X.K X.mg δ)
variable {rest : List Expr} {δt εt : DT}
theorem pdw_and1 (ha : PDT X a δt) : PDW X (.BoolOp .And [a] pos) δt := pw_and1 ha
theorem pdw_or1 (ha : PDT X a δt) : PDW X (.BoolOp .Or [a] pos) δt := pw_or1 ha
theorem pdw_and (ha : PDT X a δt) (hb : PDW X (.BoolOp .And (b :: rest) pos) εt) : PDW X (.BoolOp .And (a :: b :: rest) pos) (andT δt εt) := (pw_and ha hb).imp fun σ H Q ⟨F0, H0, ρ, F, z, S, hd, q⟩ => by
  unfold andT at hd
  split at hd
  · rename_i e
    refine ⟨F0, H0, ρ, F, true, S, e, fun F1 H1 g1 => ?_⟩
    refine iteT ?_
    exact ⟨F0, H0, ρ, F1, z, S.gr g1, hd, fun F2 H2 g2 => q F2 H2 (g1.trans g2)⟩
  · rename_i e
    cases hd
    refine ⟨F0, H0, ρ, F, false, S, e, fun F1 H1 g1 => ?_⟩
    refine iteF ?_
    exact q F1 H1 g1
  · cases hd
theorem pdw_or (ha : PDT X a δt) (hb : PDW X (.BoolOp .Or (b :: rest) pos) εt) : PDW X (.BoolOp .Or (a :: b :: rest) pos) (orT δt εt) := (pw_or ha hb).imp fun σ H Q ⟨F0, H0, ρ, F, z, S, hd, q⟩ => by
  unfold orT at hd
  split at hd
  · rename_i e
    cases hd
    refine ⟨F0, H0, ρ, F, true, S, e, fun F1 H1 g1 => ?_⟩
    refine iteT ?_
    exact q F1 H1 g1
  · rename_i e
    refine ⟨F0, H0, ρ, F, false, S, e, fun F1 H1 g1 => ?_⟩
    refine iteF ?_
    exact ⟨F0, H0, ρ, F1, z, S.gr g1, hd, fun F2 H2 g2 => q F2 H2 (g1.trans g2)⟩
  · cases hd
theorem pdt_w {e : Expr} (h : PDW X e δt) : PDT X e δt := h.pt
theorem pdt_not (ha : PDT X a δt) : PDT X (.UnaryOp .Not a pos) (notT δt) := (pt_not ha).imp fun σ H Q ⟨F0, H0, ρ, F, z, S, hd, q⟩ => by
  unfold notT at hd
  split at hd
  · rename_i b e
    cases hd
    exact ⟨F0, H0, ρ, F, b, S, e, fun F1 H1 g1 => q F1 H1 g1⟩
  · cases hd
def andE (δ ε : DE) : DE := fun ρ => match δ ρ with
  | some (.bl true) => ε ρ
  | some (.bl false) => some (.bl false)
  | _ => none
def orE (δ ε : DE) : DE := fun ρ => match δ ρ with
  | some (.bl true) => some (.bl true)
  | some (.bl false) => ε ρ
  | _ => none
def dNot : D → Option D
  | .bl b => some (.bl (!b))
  | _ => none
def notE : DE → DE := un1 dNot
theorem pde_one {op} (h : PDE X a δa) : PDE X (.BoolOp op [a] pos) δa := pe_one h
theorem pde_and (ha : PDE X a δa) (hb : PDE X (.BoolOp .And (b :: rest) pos) δb) : PDE X (.BoolOp .And (a :: b :: rest) pos) (andE δa δb) := (pe_and ha hb).imp fun σ H Q ⟨F0, H0, ρ, F, z, S, hd, q⟩ => by
  unfold andE at hd
  split at hd
  · rename_i e
    refine ⟨F0, H0, ρ, F, _, S, e, fun F1 v H1 g1 r1 => ⟨true, r1, ?_⟩⟩
    refine iteT ?_
    exact ⟨F0, H0, ρ, F1, z, S.gr g1, hd, fun F2 w H2 g2 r2 => q F2 w H2 (g1.trans g2) r2⟩
  · rename_i e
    cases hd
    refine ⟨F0, H0, ρ, F, _, S, e, fun F1 v H1 g1 r1 => ⟨false, r1, ?_⟩⟩
    refine iteF ?_
    exact q F1 _ H1 g1 rfl
  · cases hd
theorem pde_or (ha : PDE X a δa) (hb : PDE X (.BoolOp .Or (b :: rest) pos) δb) : PDE X (.BoolOp .Or (a :: b :: rest) pos) (orE δa δb) := (pe_or ha hb).imp fun σ H Q ⟨F0, H0, ρ, F, z, S, hd, q⟩ => by
  unfold orE at hd
  split at hd
  · rename_i e
    cases hd
    refine ⟨F0, H0, ρ, F, _, S, e, fun F1 v H1 g1 r1 => ⟨true, r1, ?_⟩⟩
    refine iteT ?_
    exact q F1 _ H1 g1 rfl
  · rename_i e
    refine ⟨F0, H0, ρ, F, _, S, e, fun F1 v H1 g1 r1 => ⟨false, r1, ?_⟩⟩
    refine iteF ?_
    exact ⟨F0, H0, ρ, F1, z, S.gr g1, hd, fun F2 w H2 g2 r2 => q F2 w H2 (g1.trans g2) r2⟩
  · cases hd
theorem pde_not (ha : PDE X a δa) : PDE X (.UnaryOp .Not a pos) (notE δa) := (pe_not ha).imp fun σ H Q ⟨F0, H0, ρ, F, z, S, hd, q⟩ => by
  unfold notE un1 at hd
  split at hd
  · rename_i x ex
    unfold dNot at hd
    split at hd
    · cases hd
      exact ⟨F0, H0, ρ, F, _, S, ex, fun F1 v H1 g1 r1 => ⟨_, r1, q F1 _ H1 g1 rfl⟩⟩
    · cases hd
  · cases hd
def ifE (c : DT) (δa δb : DE) : DE := fun ρ => match c ρ with
  | some true => δa ρ
  | some false => δb ρ
  | none => none
theorem pde_if {c : Expr} (hc : PDT X c δt) (ha : PDE X a δa) (hb : PDE X b δb) : PDE X (.IfExp c a b pos) (ifE δt δa δb) := (pe_ifExp hc ha hb).imp fun σ H Q ⟨F0, H0, ρ, F, z, S, hd, q⟩ => by
  unfold ifE at hd
  split at hd
  · rename_i e
    refine ⟨F0, H0, ρ, F, true, S, e, fun F1 H1 g1 => ?_⟩
    refine iteT ?_
    exact ⟨F0, H0, ρ, F1, z, S.gr g1, hd, fun F2 w H2 g2 r2 => q F2 w H2 (g1.trans g2) r2⟩
  · rename_i e
    refine ⟨F0, H0, ρ, F, false, S, e, fun F1 H1 g1 => ?_⟩
    refine iteF ?_
    exact ⟨F0, H0, ρ, F1, z, S.gr g1, hd, fun F2 w H2 g2 r2 => q F2 w H2 (g1.trans g2) r2⟩
  · cases hd
end
end DL
namespace DL
open PySem L2
section
variable {X : Cx} {e a b : Expr} {es : List Expr} {δ δa δb : DE} {δs εs : DA} {pos : Pos}
def nilA : DA := fun _ => some []
def consA (δ : DE) (ε : DA) : DA := fun ρ => match δ ρ with
  | some d => match ε ρ with
    | some ds => some (d :: ds)
    | none => none
  | none => none
theorem pda_nil : PDA X [] nilA := pa_nil.imp fun σ H Q ⟨F0, H0, ρ, F, d, S, hd, q⟩ => by
  cases hd
  exact q F [] H S.r rfl
theorem pda_cons (ha : PDE X e δ) (hr : PDA X es εs) (hs : starEach (e :: es) X.env = (false, eval e X.env) :: starEach es X.env := by rfl) : PDA X (e :: es) (consA δ εs) := (pa_cons ha hr hs).imp fun σ H Q ⟨F0, H0, ρ, F, z, S, hd, q⟩ => by
  unfold consA at hd
  split at hd
  · rename_i d e1
    split at hd
    · rename_i ds e2
      cases hd
      refine ⟨F0, H0, ρ, F, d, S, e1, fun F1 v H1 g1 r1 => ⟨F0, H0, ρ, F1, ds, S.gr g1, e2, fun F2 vs H2 g2 r2 => ?_⟩⟩
      exact q F2 _ H2 (g1.trans g2) ⟨v, vs, rfl, r1.mono g2.ff, r2⟩
    · cases hd
  · cases hd
theorem pdr_nil : PDR X [] nilA := pa_nil.imp fun σ H Q ⟨F0, H0, ρ, F, d, S, hd, q⟩ => by
  cases hd
  exact q F [] H S.r rfl
theorem pdr_cons (ha : PDV X e δ) (hr : PDR X es εs) (hs : starEach (e :: es) X.env = (false, eval e X.env) :: starEach es X.env := by rfl) : PDR X (e :: es) (consA δ εs) := (pa_cons ha hr hs).imp fun σ H Q ⟨F0, H0, ρ, F, z, S, hd, q⟩ => by
  unfold consA at hd
  split at hd
  · rename_i d e1
    split at hd
    · rename_i ds e2
      cases hd
      refine ⟨F0, H0, ρ, F, d, S, e1, fun F1 v H1 g1 r1 => ⟨F0, H0, ρ, F1, ds, S.gr g1, e2, fun F2 vs H2 g2 r2 => ?_⟩⟩
      exact q F2 _ H2 (g1.trans g2) ⟨v, vs, rfl, r1.gr g2, r2⟩
    · cases hd
  · cases hd
def tupE (δ : DA) : DE := fun ρ => match δ ρ with
  | some ds => if ds.length ≤ sizeLine then some (.tup ds) else none
  | none => none
theorem pde_tup {x1} (h : PDA X es δs) : PDE X (.Tuple es x1 pos) (tupE δs) := (pe_tup h).imp fun σ H Q ⟨F0, H0, ρ, F, z, S, hd, q⟩ => by
  unfold tupE at hd
  split at hd
  · rename_i ds e1
    split at hd
    · rename_i hl
      cases hd
      refine ⟨F0, H0, ρ, F, ds, S, e1, fun F1 vs H1 g1 r1 => ⟨by rw [r1.len]; exact hl, fun p hp => ?_⟩⟩
      exact q _ _ _ (g1.trans (Gr.new g1.fh hp)) ⟨p, vs, rfl, SqT.of upd_same, r1.mono (same_new (g1.fh.free hp))⟩
    · cases hd
  · cases hd
def lstO (δ : DA) : DA := fun ρ => match δ ρ with
  | some ds => if ds.length ≤ sizeLine then some ds else none
  | none => none
theorem pdo_lst (h : PDA X es δs) : PDO X (.List es pos) (lstO δs) := (pe_lst h).imp fun σ H Q ⟨F0, H0, ρ, F, z, S, hd, q⟩ => by
  unfold lstO at hd
  split at hd
  · rename_i ds e1
    split at hd
    · rename_i hl
      cases hd
      refine ⟨F0, H0, ρ, F, _, S, e1, fun F1 vs H1 g1 r1 => ⟨by rw [r1.len]; exact hl, fun p hp => ?_⟩⟩
      exact q _ p vs _ (g1.trans (Gr.newH g1.fh hp)) (g1.hh.free hp) (g1.fh.free hp) upd_same r1
    · cases hd
  · cases hd
def op2O (f : D → D → Option (List D)) (δa δb : DE) : DA := fun ρ => match δa ρ with
  | some x => match δb ρ with
    | some y => f x y
    | none => none
  | none => none
def OpO (K : PySem.W.Frag) (mg : Mg) (r : R2) (f : D → D → Option (List D)) : Prop :=
  ∀ (F H : Hp) (x y : V) (d e : D) (z : List D) (Q : VK), Same F H → RepV K mg F H d x → RepV K mg F H e y → f d e = some z → (∀ p vs, H p = none → RepL K mg F z vs → Q (.ref p) (upd H p (.lst vs))) → r x y H Q
theorem pdo_op {op : Operator} {r : R2} {f : D → D → Option (List D)} (ho : OpR X (binaryOp op) r) (hf : OpO X.K X.mg r f) (ha : PDV X a δa) (hb : PDV X b δb) : PDO X (.BinOp a op b pos) (op2O f δa δb) :=
  (pe_op ho ha hb).imp fun σ H Q ⟨F0, H0, ρ, F, z, S, hd, q⟩ => by
    unfold op2O at hd
    split at hd
    · rename_i x ex
      split at hd
      · rename_i y ey
        refine ⟨F0, H0, ρ, F, x, S, ex, fun F1 v H1 g1 r1 => ?_⟩
        refine ⟨F0, H0, ρ, F1, y, S.gr g1, ey, fun F2 u H2 g2 r2 => ?_⟩
        refine hf F2 H2 v u x y z Q g2.fh (r1.gr g2) r2 hd fun p vs hp r => ?_
        have g := g1.trans g2
        exact q _ p vs _ (g.trans (Gr.newH g.fh hp)) (g.hh.free hp) (g.fh.free hp) upd_same r
      · cases hd
    · cases hd
def dCatO : D → D → Option (List D)
  | .lst xs, .lst ys => if xs.length + ys.length ≤ sizeLine then some (xs ++ ys) else none
  | _, _ => none
theorem pdo_cat (ha : PDV X a δa) (hb : PDV X b δb) : PDO X (.BinOp a .Add b pos) (op2O dCatO δa δb) := pdo_op op_cat (fun F H x y d e z Q fh r1 r2 h q => by
  unfold dCatO at h
  split at h
  · split at h
    · rename_i hl
      cases h
      obtain ⟨a, vs, rfl, h1, h2⟩ := r1.lst
      obtain ⟨b, ws, rfl, h3, h4⟩ := r2.lst
      exact ⟨a, b, vs, ws, rfl, rfl, h1, h3, by rw [h2.len, h4.len]; exact hl, fun p hp => q p _ hp (h2.app h4)⟩
    · cases h
  · cases h) ha hb
def dRepO : D → D → Option (List D)
  | .lst xs, .int k => if -(2 ^ 63) ≤ k ∧ k < 2 ^ 63 ∧ xs.length * k.toNat ≤ sizeLine then some (List.replicate k.toNat xs).flatten else none
  | _, _ => none
theorem pdo_rep (ha : PDV X a δa) (hb : PDV X b δb) : PDO X (.BinOp a .Mult b pos) (op2O dRepO δa δb) := pdo_op op_rep (fun F H x y d e z Q fh r1 r2 h q => by
  unfold dRepO at h
  split at h
  · split at h
    · rename_i hl
      cases h
      obtain ⟨a, vs, rfl, h1, h2⟩ := r1.lst
      exact ⟨a, _, vs, rfl, r2, h1, hl.1, hl.2.1, by rw [h2.len]; exact hl.2.2, fun p hp => q p _ hp (h2.rep _)⟩
    · cases h
  · cases h) ha hb
def dIx : D → D → Option D
  | .lst ds, .int i => atI ds i
  | .tup ds, .int i => atI ds i
  | .scr ns, .int i => match atI ns i with
    | some n => some (.int n)
    | none => none
  | .str z, .int i => if z.length ≤ sizeLine then (match atI z.cps.toList i with
    | some c => some (.str ⟨#[c]⟩)
    | none => none) else none
  | _, _ => none
theorem ixN_len {n m : Nat} {i : Int} (h : n = m) : ixN n i = ixN m i := by rw [h]
theorem atI_rep {K : PySem.W.Frag} {mg : Mg} {F : Hp} {ds : List D} {vs : List V} {i : Int} {d : D} (r : RepL K mg F ds vs) (h : atI ds i = some d) : ∃ v, atI vs i = some v ∧ Rep K mg F d v := by
  unfold atI at h ⊢
  rw [r.len]
  cases q : ixN ds.length i with
  | none => rw [q] at h; cases h
  | some j =>
    rw [q] at h
    obtain ⟨v, h1, h2⟩ := r.get (i := j) h
    exact ⟨v, h1, h2⟩
theorem atI_map {α β : Type} {f : α → β} {xs : List α} {i : Int} {y : α} (h : atI xs i = some y) : atI (xs.map f) i = some (f y) := by
  unfold atI at h ⊢
  rw [List.length_map]
  cases q : ixN xs.length i with
  | none => rw [q] at h; cases h
  | some j =>
    rw [q] at h
    show (xs.map f)[j]? = some (f y)
    rw [List.getElem?_map, show xs[j]? = some y from h]
    rfl
theorem opd_ix {K : PySem.W.Frag} {mg : Mg} : OpD K mg (rIx K) dIx := fun F H x y d e z Q fh r1 r2 h q => by
  unfold dIx at h
  split at h
  · obtain ⟨a, vs, rfl, h1, h2⟩ := r1.lst
    obtain ⟨v, h3, h4⟩ := atI_rep h2 h
    exact .inl ⟨a, vs, _, v, rfl, r2, SqL.of h1, h3, q F v H (Gr.refl fh) h4⟩
  · obtain ⟨a, vs, rfl, h1, h2⟩ := r1.tup
    obtain ⟨v, h3, h4⟩ := atI_rep h2 h
    exact .inr (.inl ⟨a, vs, _, v, rfl, r2, seqT_mono fh h1, h3, q F v H (Gr.refl fh) h4⟩)
  · split at h
    · rename_i n hn
      cases h
      obtain ⟨a, rfl, h1⟩ := r1.scr
      exact .inl ⟨a, _, _, _, rfl, r2, fh.seq h1, atI_map hn, q F _ H (Gr.refl fh) rfl⟩
    · cases h
  · split at h
    · rename_i hl
      split at h
      · rename_i c hc
        cases h
        exact .inr (.inr ⟨_, _, c, r1, r2, hl, hc, q F _ H (Gr.refl fh) rfl⟩)
      · cases h
    · cases h
  · cases h
theorem pde_ix (ha : PDV X a δa) (hb : PDV X b δb) (hs : PlainIx b := by exact fun _ _ => rfl) : PDE X (.Subscript a b pos) (op2 dIx δa δb) := (pe_ix ix_seq ha hb hs).imp (op2_of opd_ix)
def cO1 (K : PySem.W.Frag) (mg : Mg) (δ : Env → Option (Option Int)) : TO := fun σ H Q => ∃ F0 H0 ρ F o, SR K mg F0 H0 ρ F σ H ∧ δ ρ = some o ∧ ∀ F' H', Gr F H F' H' → Q o H'
abbrev PDP (X : Cx) (e : Option Expr) (δ : Env → Option (Option Int)) : Prop := PO X e (cO1 X.K X.mg δ)
def noP : Env → Option (Option Int) := fun _ => some none
def someP (δ : DE) : Env → Option (Option Int) := fun ρ => match δ ρ with
  | some (.int i) => some (some i)
  | _ => none
theorem pdp_none : PDP X none noP := ⟨fun pins s σ H Q I ⟨F0, H0, ρ, F, d, S, hd, q⟩ => by
  cases hd
  exact po_none.run pins s σ H Q I (q F H S.r)⟩
theorem pdp_some (h : PDV X e δ) : PDP X (some e) (someP δ) := ⟨fun pins s σ H Q I ⟨F0, H0, ρ, F, d, S, hd, q⟩ => by
  unfold someP at hd
  split at hd
  · rename_i i e1
    cases hd
    exact (po_some h).run pins s σ H Q I ⟨F0, H0, ρ, F, _, S, e1, fun F1 v H1 g1 r1 => ⟨i, r1, q F1 H1 g1⟩⟩
  · cases hd⟩
def cutD (xs : List D) (lo hi : Option Int) : List D := (xs.drop (HT.sIx xs.length 0 lo)).take (HT.sIx xs.length xs.length hi - HT.sIx xs.length 0 lo)
theorem cutD_rep {K : PySem.W.Frag} {mg : Mg} {F : Hp} {ds : List D} {vs : List V} (r : RepL K mg F ds vs) (lo hi : Option Int) : RepL K mg F (cutD ds lo hi) (cutV vs lo hi) := by
  unfold cutD cutV
  rw [r.len]
  exact (r.drop _).take _
theorem cutD_whole {ds : List D} {vs : List V} {lo hi : Option Int} (hl : vs.length = ds.length) (hw : HT.sIx vs.length 0 lo = 0 ∧ HT.sIx vs.length vs.length hi = vs.length) : cutD ds lo hi = ds := by
  rw [hl] at hw
  unfold cutD
  rw [hw.1, hw.2]
  simp
def slE (δ : DE) (lo hi : Env → Option (Option Int)) : DE := fun ρ => match δ ρ with
  | some d => match lo ρ with
    | some l => match hi ρ with
      | some h => match d with
        | .lst ds => some (.lst (cutD ds l h))
        | .tup ds => some (.tup (cutD ds l h))
        | _ => none
      | none => none
    | none => none
  | none => none
theorem pde_slice {lo hi : Option Expr} {p2 : Pos} {δl δh : Env → Option (Option Int)} (he : PDV X e δ) (hl : PDP X lo δl) (hu : PDP X hi δh) : PDE X (.Subscript e (.Slice lo hi none p2) pos) (slE δ δl δh) :=
  (pe_slice (sl_list.or sl_tupA) he hl hu).imp fun σ H Q ⟨F0, H0, ρ, F, z, S, hd, q⟩ => by
    unfold slE at hd
    split at hd
    · rename_i d ed
      split at hd
      · rename_i l el
        split at hd
        · rename_i h eh
          refine ⟨F0, H0, ρ, F, d, S, ed, fun F1 v H1 g1 r1 => ⟨F0, H0, ρ, F1, l, S.gr g1, el, fun F2 H2 g2 => ⟨F0, H0, ρ, F2, h, (S.gr g1).gr g2, eh, fun F3 H3 g3 => ?_⟩⟩⟩
          have r3 := (r1.gr g2).gr g3
          have g := (g1.trans g2).trans g3
          split at hd
          · cases hd
            obtain ⟨a, vs, rfl, h1, h2⟩ := r3.lst
            refine .inl ⟨a, vs, rfl, SqL.of h1, fun p hp => ?_⟩
            exact q _ _ _ (g.trans (Gr.new g.fh hp)) ⟨p, _, rfl, upd_same, (cutD_rep h2 l h).mono (same_new (g.fh.free hp))⟩
          · cases hd
            obtain ⟨a, vs, rfl, h1, h2⟩ := r3.tup
            refine .inr ⟨a, vs, rfl, seqT_mono g.fh h1, fun hw => ?_, fun _ p hp => ?_⟩
            · refine q F3 _ H3 g ⟨a, vs, rfl, h1, ?_⟩
              rw [cutD_whole h2.len hw]
              exact h2
            · exact q _ _ _ (g.trans (Gr.new g.fh hp)) ⟨p, _, rfl, SqT.of upd_same, (cutD_rep h2 l h).mono (same_new (g.fh.free hp))⟩
          · cases hd
        · cases hd
      · cases hd
    · cases hd
def call1 (f : List D → Option D) (δ : DA) : DE := fun ρ => match δ ρ with
  | some ds => f ds
  | none => none
def CallD (K : PySem.W.Frag) (mg : Mg) (r : List V → Hp → VK → Prop) (f : List D → Option D) : Prop :=
  ∀ (F H : Hp) (xs : List V) (ds : List D) (z : D) (Q : VK), Same F H → RepVs K mg F H ds xs → f ds = some z → (∀ F' v H', Gr F H F' H' → Rep K mg F' z v → Q v H') → r xs H Q
theorem call1_of {K : PySem.W.Frag} {mg : Mg} {r : List V → Hp → VK → Prop} {f : List D → Option D} (hf : CallD K mg r f) (σ : St) (H : Hp) (Q : VK) (h : cE K mg (call1 f δs) σ H Q) : tCB r (cR K mg δs) σ H Q := by
  obtain ⟨F0, H0, ρ, F, z, S, hd, q⟩ := h
  unfold call1 at hd
  split at hd
  · rename_i ds e1
    exact ⟨F0, H0, ρ, F, ds, S, e1, fun F1 vs H1 g1 r1 => hf F1 H1 vs ds z Q g1.fh r1 hd fun F2 v H2 g2 r2 => q F2 v H2 (g1.trans g2) r2⟩
  · cases hd
theorem pde_callB {x : Str} {p : Pos} {id : String} {r : List V → Hp → VK → Prop} {f : List D → Option D} (hc : CallR X (.builtin id) r) (hf : CallD X.K X.mg r f) (hg : Gl X x) (hm : X.mg x = none) (hv : bootBuiltins x = some (.builtin id)) (ha : PDR X (e :: es) δs)
    (hn : x ≠ "__name__" := by decide) (hdb : (x == ("__debug__" : Str)) = false := by decide)
    (he : starEach (e :: es) X.env = (false, eval e X.env) :: starEach es X.env := by rfl) (hpl : (backTo pos (starEach es X.env)).any (·.1) = false := by rfl) : PDE X (.Call (.Name x p) (e :: es) [] pos) (call1 f δs) :=
  (pe_callB hc hg hm hv ha hn hdb he hpl).imp (call1_of hf)
theorem pde_callTy {x : Str} {p : Pos} {T : String} {r : List V → Hp → VK → Prop} {f : List D → Option D} (hc : CallR X (.type T) r) (hf : CallD X.K X.mg r f) (hg : Gl X x) (hm : X.mg x = none) (hv : bootBuiltins x = some (.type T)) (ha : PDR X (e :: es) δs)
    (hn : x ≠ "__name__" := by decide) (hdb : (x == ("__debug__" : Str)) = false := by decide)
    (he : starEach (e :: es) X.env = (false, eval e X.env) :: starEach es X.env := by rfl) (hpl : (backTo pos (starEach es X.env)).any (·.1) = false := by rfl) : PDE X (.Call (.Name x p) (e :: es) [] pos) (call1 f δs) :=
  (pe_callTy hc hg hm hv ha hn hdb he hpl).imp (call1_of hf)
theorem RepVs.one {K : PySem.W.Frag} {mg : Mg} {F H : Hp} {d : D} {vs : List V} (h : RepVs K mg F H [d] vs) : ∃ v, vs = [v] ∧ RepV K mg F H d v := by
  obtain ⟨v, r, e, h1, h2⟩ := h
  rw [show r = [] from h2] at e
  exact ⟨v, e, h1⟩
theorem RepVs.two {K : PySem.W.Frag} {mg : Mg} {F H : Hp} {d e : D} {vs : List V} (h : RepVs K mg F H [d, e] vs) : ∃ v w, vs = [v, w] ∧ RepV K mg F H d v ∧ RepV K mg F H e w := by
  obtain ⟨v, r, e1, h1, h2⟩ := h
  obtain ⟨w, e2, h3⟩ := RepVs.one h2
  exact ⟨v, w, by rw [e1, e2], h1, h3⟩
def dLen : List D → Option D
  | [.lst ds] => some (.int ds.length)
  | [.tup ds] => some (.int ds.length)
  | [.scr ns] => some (.int ns.length)
  | [.str z] => if z.length ≤ sizeLine then some (.int z.length) else none
  | _ => none
theorem pde_len {p : Pos} (hg : Gl X "len") (hm : X.mg "len" = none) (ha : PDR X [e] δs)
    (he : starEach [e] X.env = (false, eval e X.env) :: starEach [] X.env := by rfl) (hpl : (backTo pos (starEach [] X.env)).any (·.1) = false := by rfl) : PDE X (.Call (.Name "len" p) [e] [] pos) (call1 dLen δs) :=
  pde_callB (CallR.or call_len_seq call_len_str) (fun F H xs ds z Q fh r h q => by
    unfold dLen at h
    split at h
    · cases h
      obtain ⟨v, rfl, r1⟩ := r.one
      obtain ⟨a, vs, rfl, h1, h2⟩ := r1.lst
      exact .inl ⟨a, vs, rfl, .inl (SqL.of h1), q F _ H (Gr.refl fh) (by rw [h2.len]; exact rfl)⟩
    · cases h
      obtain ⟨v, rfl, r1⟩ := r.one
      obtain ⟨a, vs, rfl, h1, h2⟩ := r1.tup
      exact .inl ⟨a, vs, rfl, .inr (seqT_mono fh h1), q F _ H (Gr.refl fh) (by rw [h2.len]; exact rfl)⟩
    · cases h
      obtain ⟨v, rfl, r1⟩ := r.one
      obtain ⟨a, rfl, h1⟩ := r1.scr
      exact .inl ⟨a, _, rfl, .inl (fh.seq h1), q F _ H (Gr.refl fh) (by rw [List.length_map]; exact rfl)⟩
    · split at h
      · rename_i hl
        cases h
        obtain ⟨v, rfl, r1⟩ := r.one
        exact .inr ⟨_, by rw [show v = _ from r1], hl, q F _ H (Gr.refl fh) rfl⟩
      · cases h
    · cases h) hg hm PySem.boot_len ha (by decide) (by decide) he hpl
def dTuple : List D → Option D
  | [.lst ds] => some (.tup ds)
  | [.tup ds] => some (.tup ds)
  | _ => none
theorem pde_tuple {p : Pos} (hg : Gl X "tuple") (hm : X.mg "tuple" = none) (ha : PDR X [e] δs)
    (he : starEach [e] X.env = (false, eval e X.env) :: starEach [] X.env := by rfl) (hpl : (backTo pos (starEach [] X.env)).any (·.1) = false := by rfl) : PDE X (.Call (.Name "tuple" p) [e] [] pos) (call1 dTuple δs) :=
  pde_callTy call_tuple_of (fun F H xs ds z Q fh r h q => by
    unfold dTuple at h
    split at h
    · cases h
      obtain ⟨v, rfl, r1⟩ := r.one
      obtain ⟨a, vs, rfl, h1, h2⟩ := r1.lst
      exact ⟨a, vs, rfl, .inl ⟨SqL.of h1, fun l hl => q _ _ _ (Gr.new fh hl) ⟨l, vs, rfl, SqT.of upd_same, h2.mono (same_new (fh.free hl))⟩⟩⟩
    · cases h
      obtain ⟨v, rfl, r1⟩ := r.one
      obtain ⟨a, vs, rfl, h1, h2⟩ := r1.tup
      exact ⟨a, vs, rfl, .inr ⟨seqT_mono fh h1, q F _ H (Gr.refl fh) ⟨a, vs, rfl, h1, h2⟩⟩⟩
    · cases h) hg hm (by decide +kernel) ha (by decide) (by decide) he hpl
def seqD : D → Option (List D)
  | .lst ds => some ds
  | .tup ds => some ds
  | .scr ns => some (ns.map .int)
  | _ => none
def listO (δ : DA) : DA := fun ρ => match δ ρ with
  | some [d] => seqD d
  | _ => none
theorem pdo_list {p : Pos} (hg : Gl X "list") (hm : X.mg "list" = none) (ha : PDR X [e] δs)
    (he : starEach [e] X.env = (false, eval e X.env) :: starEach [] X.env := by rfl) (hpl : (backTo pos (starEach [] X.env)).any (·.1) = false := by rfl) : PDO X (.Call (.Name "list" p) [e] [] pos) (listO δs) :=
  (pe_callTy call_list_of hg hm (by decide +kernel) ha (by decide) (by decide) he hpl).imp fun σ H Q ⟨F0, H0, ρ, F, z, S, hd, q⟩ => by
    unfold listO at hd
    split at hd
    · rename_i d e1
      refine ⟨F0, H0, ρ, F, [d], S, e1, fun F1 vs H1 g1 r1 => ?_⟩
      obtain ⟨v, rfl, r2⟩ := r1.one
      unfold seqD at hd
      split at hd
      · cases hd
        obtain ⟨a, ws, rfl, h1, h2⟩ := r2.lst
        exact ⟨a, ws, rfl, .inl (SqL.of h1), fun l hl => q F1 l ws _ (g1.trans (Gr.newH g1.fh hl)) (g1.hh.free hl) (g1.fh.free hl) upd_same h2⟩
      · cases hd
        obtain ⟨a, ws, rfl, h1, h2⟩ := r2.tup
        exact ⟨a, ws, rfl, .inr (seqT_mono g1.fh h1), fun l hl => q F1 l ws _ (g1.trans (Gr.newH g1.fh hl)) (g1.hh.free hl) (g1.fh.free hl) upd_same h2⟩
      · cases hd
        obtain ⟨a, rfl, h1⟩ := r2.scr
        exact ⟨a, _, rfl, .inl (g1.fh.seq h1), fun l hl => q F1 l _ _ (g1.trans (Gr.newH g1.fh hl)) (g1.hh.free hl) (g1.fh.free hl) upd_same (RepL.of_ints _)⟩
      · cases hd
    · cases hd
def dInt : List D → Option D
  | [.int i] => some (.int i)
  | [.bl b] => some (.int (if b then 1 else 0))
  | _ => none
theorem pde_int1 {p : Pos} (hg : Gl X "int") (hm : X.mg "int" = none) (ha : PDR X [e] δs)
    (he : starEach [e] X.env = (false, eval e X.env) :: starEach [] X.env := by rfl) (hpl : (backTo pos (starEach [] X.env)).any (·.1) = false := by rfl) : PDE X (.Call (.Name "int" p) [e] [] pos) (call1 dInt δs) :=
  pde_callTy call_int1 (fun F H xs ds z Q fh r h q => by
    unfold dInt at h
    split at h
    · cases h
      obtain ⟨v, rfl, r1⟩ := r.one
      exact .inl ⟨_, by rw [show v = _ from r1], q F _ H (Gr.refl fh) rfl⟩
    · cases h
      obtain ⟨v, rfl, r1⟩ := r.one
      exact .inr ⟨_, by rw [show v = _ from r1], q F _ H (Gr.refl fh) rfl⟩
    · cases h) hg hm (by decide +kernel) ha (by decide) (by decide) he hpl
def dMax2 : List D → Option D
  | [.int i, .int j] => some (.int (if j > i then j else i))
  | _ => none
def dMin2 : List D → Option D
  | [.int i, .int j] => some (.int (if j < i then j else i))
  | _ => none
theorem pde_max2 {p : Pos} (hc : X.calm = true) (hg : Gl X "max") (hm : X.mg "max" = none) (ha : PDR X [a, b] δs)
    (he : starEach [a, b] X.env = (false, eval a X.env) :: starEach [b] X.env := by rfl) (hpl : (backTo pos (starEach [b] X.env)).any (·.1) = false := by rfl) : PDE X (.Call (.Name "max" p) [a, b] [] pos) (call1 dMax2 δs) :=
  pde_callB (call_max2 hc) (fun F H xs ds z Q fh r h q => by
    unfold dMax2 at h
    split at h
    · cases h
      obtain ⟨v, w, rfl, r1, r2⟩ := r.two
      exact ⟨_, _, by rw [show v = _ from r1, show w = _ from r2], q F _ H (Gr.refl fh) rfl⟩
    · cases h) hg hm (by decide +kernel) ha (by decide) (by decide) he hpl
theorem pde_min2 {p : Pos} (hc : X.calm = true) (hg : Gl X "min") (hm : X.mg "min" = none) (ha : PDR X [a, b] δs)
    (he : starEach [a, b] X.env = (false, eval a X.env) :: starEach [b] X.env := by rfl) (hpl : (backTo pos (starEach [b] X.env)).any (·.1) = false := by rfl) : PDE X (.Call (.Name "min" p) [a, b] [] pos) (call1 dMin2 δs) :=
  pde_callB (call_min2 hc) (fun F H xs ds z Q fh r h q => by
    unfold dMin2 at h
    split at h
    · cases h
      obtain ⟨v, w, rfl, r1, r2⟩ := r.two
      exact ⟨_, _, by rw [show v = _ from r1, show w = _ from r2], q F _ H (Gr.refl fh) rfl⟩
    · cases h) hg hm (by decide +kernel) ha (by decide) (by decide) he hpl
def intsD : List D → Option (List Int)
  | [] => some []
  | .int i :: ds => match intsD ds with
    | some is => some (i :: is)
    | none => none
  | _ :: _ => none
theorem intsD_map : ∀ {ds : List D} {ns : List Int}, intsD ds = some ns → ds = ns.map D.int
  | [], ns, h => by cases h; rfl
  | .int i :: ds, ns, h => by
    unfold intsD at h
    split at h
    · rename_i is e
      cases h
      rw [intsD_map e]
      rfl
    · cases h
  | .non :: _, _, h => by simp [intsD] at h
  | .bl _ :: _, _, h => by simp [intsD] at h
  | .str _ :: _, _, h => by simp [intsD] at h
  | .lst _ :: _, _, h => by simp [intsD] at h
  | .tup _ :: _, _, h => by simp [intsD] at h
  | .scr _ :: _, _, h => by simp [intsD] at h
  | .ob _ _ :: _, _, h => by simp [intsD] at h
theorem intsD_of : ∀ (ns : List Int), intsD (ns.map D.int) = some ns
  | [] => rfl
  | n :: ns => by
    show intsD (D.int n :: ns.map D.int) = _
    unfold intsD
    rw [intsD_of ns]
end
section
variable {X : Cx}
theorem iter_tupG {prog : Program} {w : World} {A : Around} {E : Value → Shared → Prop} {s : Shared} {l : Addr} {its : List Value} {Q : Value → Shared → Prop} (hl : s.heap.IsTuple l its.toArray)
    (h : Q (.ref s.heap.objs.size) { s with heap := s.heap.push { cls := .type "tuple_iterator", data := .fields #[.ref l, .int 0 0] } }) : wpAny (model prog w) A (pyIter (.ref l)) Q E s := wpAny_pyIter_tuple hl h
end
def rSum (K : PySem.W.Frag) : List V → Hp → VK → Prop := L2.rSum K
def dSum : List D → Option D
  | [.lst ds] => match intsD ds with
    | some ns => some (.int ns.sum)
    | none => none
  | _ => none
section
variable {X : Cx} {e : Expr} {δs : DA} {pos : Pos}
theorem pde_sum {p : Pos} (hc : X.calm = true) (hg : Gl X "sum") (hm : X.mg "sum" = none) (ha : PDR X [e] δs)
    (he : starEach [e] X.env = (false, eval e X.env) :: starEach [] X.env := by rfl) (hpl : (backTo pos (starEach [] X.env)).any (·.1) = false := by rfl) : PDE X (.Call (.Name "sum" p) [e] [] pos) (call1 dSum δs) :=
  pde_callB (cr_sum hc) (fun F H xs ds z Q fh r h q => by
    unfold dSum at h
    split at h
    · split at h
      · rename_i ns hn
        cases h
        obtain ⟨v, rfl, r1⟩ := r.one
        have hm := intsD_map hn
        subst hm
        obtain ⟨a, vs, rfl, h1, h2⟩ := r1.lst
        rw [h2.ints] at h1
        exact ⟨a, ns, rfl, SqL.of h1, q F _ H (Gr.refl fh) rfl⟩
      · cases h
    · cases h) hg hm (by decide +kernel) ha (by decide) (by decide) he hpl
end
end DL
namespace DL
open PySem L2
structure ItOk (K : PySem.W.Frag) (mg : Mg) (F : Hp) (J : It) (ds : List D) : Prop where
  go : ∀ i H, Same F H → i < ds.length → J.go i H
  stop : ∀ H, Same F H → J.stop ds.length H
  yld : ∀ (i : Nat) (H : Hp) (x : V) (H' : Hp) (d : D), Same F H → ds[i]? = some d → J.yld i H x H' → ∀ F1, Same F F1 → Same F1 H → ∃ F2, Gr F1 H F2 H' ∧ Rep K mg F2 d x
theorem ItOk.mono {K : PySem.W.Frag} {mg : Mg} {F F' : Hp} {J : It} {ds : List D} (h : ItOk K mg F J ds) (e : Same F F') : ItOk K mg F' J ds :=
  ⟨fun i H s l => h.go i H (e.trans s) l, fun H s => h.stop H (e.trans s), fun i H x H' d s g y F1 s1 s2 => h.yld i H x H' d (e.trans s) g y F1 (e.trans s1) s2⟩
def cI (K : PySem.W.Frag) (mg : Mg) (δ : DA) : TI := fun σ H R => ∃ F0 H0 ρ F ds, SR K mg F0 H0 ρ F σ H ∧ δ ρ = some ds ∧ ∀ F' J H', Gr F H F' H' → ItOk K mg F' J ds → R J H'
abbrev PDI (X : Cx) (tg iter : Expr) (δ : DA) : Prop := PI X tg iter (cI X.K X.mg δ)
theorem _root_.L2.PI.imp {X : Cx} {tg e : Expr} {t t' : TI} (h : PI X tg e t) (i : ∀ σ H Q, t' σ H Q → t σ H Q) : PI X tg e t' := ⟨fun pins s σ H Q I q => h.run pins s σ H Q I (i σ H Q q)⟩
def lstI (δ : DE) : DA := fun ρ => match δ ρ with
  | some (.lst ds) => some ds
  | some (.scr ns) => some (ns.map .int)
  | _ => none
def tupI (δ : DE) : DA := fun ρ => match δ ρ with
  | some (.tup ds) => some ds
  | _ => none
section
variable {X : Cx} {tg e a b : Expr} {es : List Expr} {δ δa δb : DE} {δs εs : DA} {pos : Pos}
theorem it_list {K : PySem.W.Frag} {mg : Mg} {F : Hp} {a : Addr} {ds : List D} {vs : List V} (h : SqL K F a vs) (r : RepL K mg F ds vs) : ItOk K mg F (Itl K a) ds := by
  refine ⟨fun i H s l => ?_, fun H s => ⟨vs, s.seq h, by rw [r.len]; exact Nat.le_refl _⟩, fun i H x H' d s g y F1 s1 s2 => ?_⟩
  · obtain ⟨v, h1, _⟩ := r.get (List.getElem?_eq_getElem l)
    exact ⟨vs, v, s.seq h, h1⟩
  · obtain ⟨rfl, y2⟩ := y
    obtain ⟨v, h1, h2⟩ := r.get g
    have := y2 vs (s.seq h)
    rw [h1] at this
    cases this
    exact ⟨F1, Gr.refl s2, h2.mono s1⟩
theorem it_tup {K : PySem.W.Frag} {mg : Mg} {F : Hp} {a : Addr} {ds : List D} {vs : List V} (h : SqT K F a vs) (r : RepL K mg F ds vs) : ItOk K mg F (Itt K a) ds := by
  refine ⟨fun i H s l => ?_, fun H s => ⟨vs, seqT_mono s h, by rw [r.len]; exact Nat.le_refl _⟩, fun i H x H' d s g y F1 s1 s2 => ?_⟩
  · obtain ⟨v, h1, _⟩ := r.get (List.getElem?_eq_getElem l)
    exact ⟨vs, v, seqT_mono s h, h1⟩
  · obtain ⟨rfl, y2⟩ := y
    obtain ⟨v, h1, h2⟩ := r.get g
    have := y2 vs (seqT_mono s h)
    rw [h1] at this
    cases this
    exact ⟨F1, Gr.refl s2, h2.mono s1⟩
theorem pdi_lst (h : PDE X e δ) : PDI X tg e (lstI δ) := (pi_list h).imp fun σ H R ⟨F0, H0, ρ, F, ds, S, hd, q⟩ => by
  unfold lstI at hd
  split at hd
  · rename_i e1
    cases hd
    refine ⟨F0, H0, ρ, F, _, S, e1, fun F1 v H1 g1 r1 => ?_⟩
    obtain ⟨a, vs, rfl, h1, h2⟩ := r1
    exact ⟨a, rfl, ⟨vs, SqL.of (g1.fh _ _ h1)⟩, q F1 _ H1 g1 (it_list (SqL.of h1) h2)⟩
  · rename_i e1
    cases hd
    refine ⟨F0, H0, ρ, F, _, S, e1, fun F1 v H1 g1 r1 => ?_⟩
    obtain ⟨a, rfl, h1⟩ := r1
    exact ⟨a, rfl, ⟨_, g1.fh.seq h1⟩, q F1 _ H1 g1 (it_list h1 (RepL.of_ints _))⟩
  · cases hd
theorem pdi_tup (h : PDE X e δ) : PDI X tg e (tupI δ) := (pi_tup h).imp fun σ H R ⟨F0, H0, ρ, F, ds, S, hd, q⟩ => by
  unfold tupI at hd
  split at hd
  · rename_i e1
    cases hd
    refine ⟨F0, H0, ρ, F, _, S, e1, fun F1 v H1 g1 r1 => ?_⟩
    obtain ⟨a, vs, rfl, h1, h2⟩ := r1
    exact ⟨a, rfl, ⟨vs, seqT_mono g1.fh h1⟩, q F1 _ H1 g1 (it_tup h1 h2)⟩
  · cases hd
def rngL (lo hi : Int) : List D := (List.range (hi - lo).toNat).map fun k => .int (lo + (k : Nat))
theorem rngL_get {lo hi : Int} {i : Nat} {d : D} (h : (rngL lo hi)[i]? = some d) : d = .int (lo + i) := by
  unfold rngL at h
  rw [List.getElem?_map] at h
  by_cases hi' : i < (hi - lo).toNat
  · rw [List.getElem?_range hi'] at h
    cases h
    rfl
  · rw [List.getElem?_eq_none (by rw [List.length_range]; omega)] at h
    cases h
theorem rngL_len (lo hi : Int) : (rngL lo hi).length = (hi - lo).toNat := by
  unfold rngL
  rw [List.length_map, List.length_range]
theorem it_range {K : PySem.W.Frag} {mg : Mg} {F : Hp} {lo hi : Int} : ItOk K mg F (Itr lo (hi - lo).toNat) (rngL lo hi) := by
  refine ⟨fun i H _ l => by rw [rngL_len] at l; exact l, fun H _ => by rw [rngL_len]; exact Nat.le_refl _, fun i H x H' d s g y F1 s1 s2 => ?_⟩
  obtain ⟨rfl, rfl⟩ := y
  rw [rngL_get g]
  exact ⟨F1, Gr.refl s2, rfl⟩
def rng1I (δ : DA) : DA := fun ρ => match δ ρ with
  | some [.int j] => if -(2 ^ 62) ≤ j ∧ j < 2 ^ 62 then some (rngL 0 j) else none
  | _ => none
def rng2I (δ : DA) : DA := fun ρ => match δ ρ with
  | some [.int i, .int j] => if (-(2 ^ 62) ≤ i ∧ i < 2 ^ 62) ∧ (-(2 ^ 62) ≤ j ∧ j < 2 ^ 62) then some (rngL i j) else none
  | _ => none
theorem pdi_range1 {p : Pos} (hg : Gl X "range") (hm : X.mg "range" = none) (ha : PDR X [a] δs) (hs : starEach [a] X.env = [(false, eval a X.env)] := by rfl) : PDI X tg (.Call (.Name "range" p) [a] [] pos) (rng1I δs) :=
  (pi_range1 hg hm ha hs).imp fun σ H R ⟨F0, H0, ρ, F, ds, S, hd, q⟩ => by
    unfold rng1I at hd
    split at hd
    · rename_i j e1
      split at hd
      · rename_i hb
        cases hd
        refine ⟨F0, H0, ρ, F, _, S, e1, fun F1 vs H1 g1 r1 => ?_⟩
        obtain ⟨v, rfl, r2⟩ := r1.one
        refine ⟨j, by rw [show v = _ from r2], hb.1, hb.2, ?_⟩
        have := q F1 (Itr 0 (j - 0).toNat) H1 g1 it_range
        rw [Int.sub_zero] at this
        exact this
      · cases hd
    · cases hd
theorem pdi_range2 {p : Pos} (hg : Gl X "range") (hm : X.mg "range" = none) (ha : PDR X [a, b] δs) (hs : starEach [a, b] X.env = [(false, eval a X.env), (false, eval b X.env)] := by rfl) (hs2 : starEach [b] X.env = [(false, eval b X.env)] := by rfl) : PDI X tg (.Call (.Name "range" p) [a, b] [] pos) (rng2I δs) :=
  (pi_range2 hg hm ha hs hs2).imp fun σ H R ⟨F0, H0, ρ, F, ds, S, hd, q⟩ => by
    unfold rng2I at hd
    split at hd
    · rename_i i j e1
      split at hd
      · rename_i hb
        cases hd
        refine ⟨F0, H0, ρ, F, _, S, e1, fun F1 vs H1 g1 r1 => ?_⟩
        obtain ⟨v, w, rfl, r2, r3⟩ := r1.two
        exact ⟨i, j, by rw [show v = _ from r2, show w = _ from r3], ⟨hb.1.1, hb.1.2, hb.2.1, hb.2.2⟩, q F1 _ H1 g1 it_range⟩
      · cases hd
    · cases hd
end
abbrev DG := D → Env → Option Env
def cG (K : PySem.W.Frag) (mg : Mg) (γ : DG) (is : List Nat) : TG := fun x σ H Q => ∃ F0 H0 ρ F d ρ', SR K mg F0 H0 ρ F σ H ∧ Rep K mg F d x ∧ γ d ρ = some ρ' ∧ ∀ σ', SR K mg F0 H0 ρ' F σ' H → σ'.length = σ.length → (∀ j, j ∉ is → σ'[j]? = σ[j]?) → Q σ' H
abbrev PDG (X : Cx) (tg : Expr) (γ : DG) (is : List Nat) : Prop := PG X tg (cG X.K X.mg γ is)
theorem _root_.L2.PG.imp {X : Cx} {e : Expr} {t t' : TG} (h : PG X e t) (i : ∀ x σ H Q, t' x σ H Q → t x σ H Q) : PG X e t' := ⟨fun pins s σ H v u Q I r q => h.run pins s σ H v u Q I r (i v σ H Q q)⟩
theorem SR.set' {K : PySem.W.Frag} {mg : Mg} {F0 H0 F H : Hp} {ρ : Env} {σ : St} (S : SR K mg F0 H0 ρ F σ H) {i : Nat} {d : D} {v : V} (h : Rep K mg F d v) : SR K mg F0 H0 (ρ.set i (.sh d)) F (σ.set i (some v)) H := by
  by_cases hi : i < ρ.length
  · exact S.set hi h
  · rw [List.set_eq_of_length_le (by omega), List.set_eq_of_length_le (by rw [← S.len]; omega)]
    exact S
def nmG (i : Nat) : DG := fun d ρ => some (ρ.set i (.sh d))
theorem pdg_name {X : Cx} {x : Str} {pos : Pos} {i : Nat} (hN : X.N.Nodup) (hi : X.N[i]? = some x) (hx : Loc X.env.scope x) (hf : X.fn x = true ∨ X.env.scope.names.lookup x = some .local := by first | exact .inl rfl | exact .inr rfl | assumption) : PDG X (.Name x pos) (nmG i) [i] :=
  (pg_name hN hi hx hf).imp fun x σ H Q ⟨F0, H0, ρ, F, d, ρ', S, r, e, q⟩ => by
    cases e
    exact q _ (S.set' r) (by rw [List.length_set]) fun j hj => by
      have : i ≠ j := fun z => hj (by rw [z]; exact List.mem_singleton.mpr rfl)
      rw [List.getElem?_set_ne this]
abbrev DGs := List D → Env → Option Env
def cGs (K : PySem.W.Frag) (mg : Mg) (γ : DGs) (is : List Nat) : TGs := fun xs σ H Q => ∃ F0 H0 ρ F ds ρ', SR K mg F0 H0 ρ F σ H ∧ RepL K mg F ds xs ∧ γ ds ρ = some ρ' ∧ ∀ σ', SR K mg F0 H0 ρ' F σ' H → σ'.length = σ.length → (∀ j, j ∉ is → σ'[j]? = σ[j]?) → Q σ' H
abbrev PDGs (X : Cx) (ts : List Expr) (γ : DGs) (is : List Nat) : Prop := PGs X ts (cGs X.K X.mg γ is)
theorem _root_.L2.PGs.imp {X : Cx} {es : List Expr} {t t' : TGs} (h : PGs X es t) (i : ∀ x σ H Q, t' x σ H Q → t x σ H Q) : PGs X es t' := ⟨fun pins s σ H v u Q I r q => h.run pins s σ H v u Q I r (i v σ H Q q)⟩
def nilG : DGs := fun ds ρ => match ds with
  | [] => some ρ
  | _ => none
def consG (γ : DG) (γs : DGs) : DGs := fun ds ρ => match ds with
  | d :: r => match γ d ρ with
    | some ρ1 => γs r ρ1
    | none => none
  | [] => none
def tupG (n : Nat) (γs : DGs) : DG := fun d ρ => match d with
  | .tup ds => if ds.length = n then γs ds ρ else none
  | _ => none
section
variable {X : Cx} {e : Expr} {es : List Expr} {pos : Pos} {γ : DG} {γs : DGs} {is js : List Nat}
theorem pdgs_nil : PDGs X [] nilG [] := pgs_nil.imp fun xs σ H Q ⟨F0, H0, ρ, F, ds, ρ', S, r, e, q⟩ => by
  unfold nilG at e
  split at e
  · cases e
    exact ⟨r, q σ S rfl fun _ _ => rfl⟩
  · cases e
theorem pdgs_cons (h1 : PDG X e γ is) (h2 : PDGs X es γs js) (hs : (assignEach (e :: es) X.env).map (·.2) = assign e X.env :: (assignEach es X.env).map (·.2) := by rfl) : PDGs X (e :: es) (consG γ γs) (is ++ js) :=
  (pgs_cons h1 h2 hs).imp fun xs σ H Q ⟨F0, H0, ρ, F, ds, ρ', S, r, e, q⟩ => by
    unfold consG at e
    split at e
    · split at e
      · rename_i ρ1 e1
        obtain ⟨v, rs, rfl, r1, r2⟩ := r
        refine ⟨v, rs, rfl, F0, H0, ρ, F, _, ρ1, S, r1, e1, fun σ1 S1 l1 o1 => ⟨F0, H0, ρ1, F, _, ρ', S1, r2, e, fun σ2 S2 l2 o2 => ?_⟩⟩
        exact q σ2 S2 (l2.trans l1) fun j hj => (o2 j fun z => hj (List.mem_append_right _ z)).trans (o1 j fun z => hj (List.mem_append_left _ z))
      · cases e
    · cases e
theorem pdg_tup {k : Nat} {n : Nat} (hc : X.calm = true) (h : PDGs X es γs is) (hn : (assignEach es X.env).length = n := by rfl) (hst : (assignEach es X.env).findIdx? (·.1) = none := by rfl) : PDG X (.Tuple es k pos) (tupG n γs) is :=
  (pg_tup hc h hn hst).imp fun x σ H Q ⟨F0, H0, ρ, F, d, ρ', S, r, e, q⟩ => by
    unfold tupG at e
    split at e
    · split at e
      · rename_i hl
        obtain ⟨a, vs, rfl, h1, h2⟩ := r
        exact ⟨a, vs, rfl, seqT_mono S.fh h1, by rw [h2.len]; exact hl, F0, H0, ρ, F, _, ρ', S, h2, e, q⟩
      · cases e
    · cases e
end
def wipeD (ρ : Env) : List Nat → Env
  | [] => ρ
  | v :: vs => (wipeD ρ vs).set v .no
theorem SR.wipe {K : PySem.W.Frag} {mg : Mg} {F0 H0 F H : Hp} {ρ : Env} {σ : St} (S : SR K mg F0 H0 ρ F σ H) : ∀ vs : List Nat, SR K mg F0 H0 (wipeD ρ vs) F (L2.wipe σ vs) H
  | [] => S
  | v :: vs => by
    unfold wipeD L2.wipe
    exact (SR.wipe S vs).forget
theorem wipe_get {σ : St} {j : Nat} : ∀ {vs : List Nat}, j ∉ vs → (wipe σ vs)[j]? = σ[j]?
  | [], _ => rfl
  | v :: vs, h => by
    unfold L2.wipe
    rw [List.getElem?_set_ne (fun z => h (by rw [z]; exact List.mem_cons_self))]
    exact wipe_get fun z => h (List.mem_cons_of_mem _ z)
theorem wipe_in {σ : St} {j : Nat} : ∀ {vs : List Nat}, j ∈ vs → j < σ.length → (wipe σ vs)[j]? = some none
  | v :: vs, h, l => by
    unfold L2.wipe
    by_cases q : v = j
    · subst q
      rw [List.getElem?_set_self (by rw [wipe_length]; exact l)]
    · rw [List.getElem?_set_ne q]
      refine wipe_in ?_ l
      rcases List.mem_cons.mp h with z | z
      · exact absurd z.symm q
      · exact z
theorem wipe_same {σ σ' : St} {vs : List Nat} (l : σ'.length = (wipe σ vs).length) (o : ∀ j, j ∉ vs → σ'[j]? = (wipe σ vs)[j]?) : wipe σ' vs = wipe σ vs := by
  have l' : σ'.length = σ.length := by rw [l, wipe_length]
  apply List.ext_getElem?
  intro j
  by_cases h : j ∈ vs
  · by_cases hj : j < σ.length
    · rw [wipe_in h hj, wipe_in h (by rw [l']; exact hj)]
    · rw [List.getElem?_eq_none (by rw [wipe_length]; omega), List.getElem?_eq_none (by rw [wipe_length]; omega)]
  · rw [wipe_get h, o j h]
def lcL (γ : DG) (δt : DT) (δ : DE) (ρ : Env) : List D → Option (List D)
  | [] => some []
  | d :: ds => match γ d ρ with
    | some ρ1 => match δt ρ1 with
      | some true => match δ ρ1 with
        | some y => match lcL γ δt δ ρ ds with
          | some ys => some (y :: ys)
          | none => none
        | none => none
      | some false => lcL γ δt δ ρ ds
      | none => none
    | none => none
def lcO (vs : List Nat) (δi : DA) (γ : DG) (δt : DT) (δ : DE) : DA := fun ρ => match δi ρ with
  | some ds => if ds.length ≤ sizeLine then lcL γ δt δ (wipeD ρ vs) ds else none
  | none => none
abbrev PDTs (X : Cx) (ifs : List Expr) (δ : DT) : Prop := PTs X ifs (cT X.K X.mg δ)
def yesT : DT := fun _ => some true
theorem _root_.L2.PTs.imp {X : Cx} {e : List Expr} {t t' : TT} (h : PTs X e t) (i : ∀ σ H Q, t' σ H Q → t σ H Q) : PTs X e t' := ⟨fun pins s σ H Q I q => h.run pins s σ H Q I (i σ H Q q)⟩
theorem pdts_nil {X : Cx} : PDTs X [] yesT := pts_nil.imp fun σ H Q ⟨F0, H0, ρ, F, b, S, e, q⟩ => by
  cases e
  exact q F H S.r
theorem pdts_one {X : Cx} {c : Expr} {δ : DT} (h : PDT X c δ) : PDTs X [c] δ := pts_one h
theorem lc_of {K : PySem.W.Frag} {mg : Mg} {vs is : List Nat} {δi : DA} {γ : DG} {δt : DT} {δ : DE} (hv : ∀ i ∈ is, i ∈ vs) (σ : St) (H : Hp) (Q : VK) (h : cO K mg (lcO vs δi γ δt δ) σ H Q) :
    tLc (cI K mg δi) (cG K mg γ is) (cT K mg δt) (cE K mg δ) vs σ H Q := by
  obtain ⟨F0, H0, ρ, F, zs, S, hd, q⟩ := h
  unfold lcO at hd
  split at hd
  · rename_i ds e1
    split at hd
    · rename_i hlen
      refine ⟨F0, H0, ρ, F, ds, S, e1, fun F1 J H1 g1 it D hD => ?_⟩
      refine ⟨fun i m H2 => m = ds.length - i ∧ i ≤ ds.length ∧ ∃ F2 acc ys zs', Gr F1 H1 F2 H2 ∧ F2 D = none ∧ H2 D = some (.lst acc) ∧ acc.length ≤ i ∧ RepL K mg F2 ys acc ∧ lcL γ δt δ (wipeD ρ vs) (ds.drop i) = some zs' ∧ ys ++ zs' = zs,
        ⟨ds.length, rfl, Nat.zero_le _, F1, [], [], zs, Gr.newH g1.fh hD, g1.fh.free hD, upd_same, Nat.le_refl _, rfl, hd, rfl⟩, fun i m H2 hW => ?_⟩
      obtain ⟨rfl, hi, F2, acc, ys, zs', g2, f2, hH2, hal, r2, e2, ez⟩ := hW
      have hw : ∀ {F' H'}, Gr F1 H1 F' H' → Same F1 H' := fun g => g.ff.trans g.fh
      by_cases hlt : i < ds.length
      · refine .inr ⟨it.go i H2 (hw g2) hlt, ?_⟩
        have ed : ds.drop i = ds[i] :: ds.drop (i + 1) := List.drop_eq_getElem_cons hlt
        rw [ed] at e2
        unfold lcL at e2
        split at e2
        · rename_i ρ1 eg
          refine ⟨fun H3 => ∃ F2 acc ys zs', Gr F1 H1 F2 H3 ∧ F2 D = none ∧ H3 D = some (.lst acc) ∧ acc.length ≤ i + 1 ∧ RepL K mg F2 ys acc ∧ lcL γ δt δ (wipeD ρ vs) (ds.drop (i + 1)) = some zs' ∧ ys ++ zs' = zs,
            fun H3 w => ⟨ds.length - (i + 1), by omega, rfl, hlt, w⟩, fun x H3 y => ?_⟩
          obtain ⟨F3, g3, r3⟩ := it.yld i H2 x H3 ds[i] (hw g2) (List.getElem?_eq_getElem hlt) y F2 g2.ff g2.fh
          have g13 := g2.trans g3
          refine ⟨F0, H0, wipeD ρ vs, F3, ds[i], ρ1, ((S.gr g1).gr g13).wipe vs, r3, eg, fun σ4 S4 l4 o4 => ⟨?_, ?_⟩⟩
          · exact wipe_same l4 fun j hj => o4 j fun z => hj (hv j z)
          · have d3 : F3 D = none := g3.nw D (by rw [hH2]; exact fun z => nomatch z) f2
            have h3 : H3 D = some (.lst acc) := g3.hh _ _ hH2
            split at e2
            · rename_i et
              refine ⟨F0, H0, ρ1, F3, true, S4, et, fun F5 H5 g5 => ?_⟩
              refine iteT ?_
              split at e2
              · rename_i y' ey
                split at e2
                · rename_i ys' ee
                  cases e2
                  refine ⟨F0, H0, ρ1, F5, y', S4.gr g5, ey, fun F6 v H6 g6 r6 => ?_⟩
                  have g16 := (g13.trans g5).trans g6
                  have g36 := g5.trans g6
                  have h6 : H6 D = some (.lst acc) := g36.hh _ _ h3
                  have d6 : F6 D = none := g36.nw D (by rw [h3]; exact fun z => nomatch z) d3
                  refine ⟨acc, h6, Nat.lt_of_lt_of_le (Nat.lt_of_le_of_lt hal hlt) hlen, F6, acc ++ [v], ys ++ [y'], ys', ?_, d6, upd_same, by rw [List.length_append, List.length_singleton]; omega, (r2.mono (g3.ff.trans g36.ff)).app (RepL.one r6), ee, by rw [List.append_assoc]; exact ez⟩
                  exact ⟨g16.ff, fun b o e => by
                    rw [upd_ne (ne_of_none e hD)]
                    exact g16.hh _ _ e, fun b o e => by
                    rw [upd_ne (ne_of_none e d6)]
                    exact g16.fh _ _ e, g16.nw⟩
                · cases e2
              · cases e2
            · rename_i et
              refine ⟨F0, H0, ρ1, F3, false, S4, et, fun F5 H5 g5 => ?_⟩
              refine iteF ?_
              exact ⟨F5, acc, ys, zs', g13.trans g5, g5.nw D (by rw [h3]; exact fun z => nomatch z) d3, g5.hh _ _ h3, by omega, r2.mono (g3.ff.trans g5.ff), e2, ez⟩
            · cases e2
        · cases e2
      · have ei : i = ds.length := by omega
        refine .inl ⟨by rw [ei]; exact it.stop H2 (hw g2), ?_⟩
        rw [ei, List.drop_length] at e2
        cases e2
        rw [List.append_nil] at ez
        subst ez
        exact q F2 D acc H2 (g1.trans g2) (g1.hh.free hD) f2 hH2 r2
    · cases hd
  · cases hd
section
variable {X : Cx} {pos : Pos}
theorem pdo_lc {elt tg iter : Expr} {ifs : List Expr} {scope : Scope} {own : List (Str × Nat)} {is : List Nat} {δi : DA} {γ : DG} {δt : DT} {δ : DE} (hc : X.calm = true) (hN : X.N.Nodup) (hi : PDI X tg iter δi) (ok : BlkOk X.N X.env.scope scope own)
    (hg : ∀ (s : Shared) (H : Hp) (C : Addr) (cl : List (Str × Addr)) (fp : List Addr), PDG (X.blk s H scope (compEnvC scope cl C X.env) fp) tg γ is) (ht : ∀ (s : Shared) (H : Hp) (C : Addr) (cl : List (Str × Addr)) (fp : List Addr), PDTs (X.blk s H scope (compEnvC scope cl C X.env) fp) ifs δt)
    (he : ∀ (s : Shared) (H : Hp) (C : Addr) (cl : List (Str × Addr)) (fp : List Addr), PDE (X.blk s H scope (compEnvC scope cl C X.env) fp) elt δ) (hs : ∀ x, foldedSetIterable iter X.env x = pure x := by intro _; rfl) (hv : ∀ i ∈ is, i ∈ own.map (·.2) := by decide) :
    PDO X (.ListComp elt [⟨tg, iter, ifs, 0⟩] scope pos) (lcO (own.map (·.2)) δi γ δt δ) :=
  (pe_lc hc hN hi ok hg ht he hs).imp (lc_of hv)
end
inductive Fl where
  | nx (ρ : Env) | rt (d : D) | bk (ρ : Env) | ct (ρ : Env)
abbrev DS := Env → Option Fl
def EndsOk (K : PySem.W.Frag) (mg : Mg) (F0 H0 F : Hp) (E : Ends) : Fl → Prop
  | .nx ρ => ∀ F' σ H, Same F F' → SR K mg F0 H0 ρ F' σ H → E.nx σ H
  | .bk ρ => ∀ F' σ H, Same F F' → SR K mg F0 H0 ρ F' σ H → E.bk σ H
  | .ct ρ => ∀ F' σ H, Same F F' → SR K mg F0 H0 ρ F' σ H → E.ct σ H
  | .rt d => ∀ F' v ρ σ H, Same F F' → SR K mg F0 H0 ρ F' σ H → Rep K mg F' d v → E.rt v H
theorem EndsOk.mono {K : PySem.W.Frag} {mg : Mg} {F0 H0 F F' : Hp} {E : Ends} (e : Same F F') : ∀ {fl : Fl}, EndsOk K mg F0 H0 F E fl → EndsOk K mg F0 H0 F' E fl
  | .nx _, h => fun F2 σ H s S => h F2 σ H (e.trans s) S
  | .bk _, h => fun F2 σ H s S => h F2 σ H (e.trans s) S
  | .ct _, h => fun F2 σ H s S => h F2 σ H (e.trans s) S
  | .rt _, h => fun F2 v ρ σ H s S r => h F2 v ρ σ H (e.trans s) S r
def cS (K : PySem.W.Frag) (mg : Mg) (δ : DS) : TS := fun E σ H => ∃ F0 H0 ρ F fl, SR K mg F0 H0 ρ F σ H ∧ δ ρ = some fl ∧ EndsOk K mg F0 H0 F E fl
abbrev PDS (X : Cx) (st : Stmt) (δ : DS) : Prop := PS X st (cS X.K X.mg δ)
abbrev PDSs (X : Cx) (st : List Stmt) (δ : DS) : Prop := PSs X st (cS X.K X.mg δ)
theorem _root_.L2.PS.imp {X : Cx} {st : Stmt} {t t' : TS} (h : PS X st t) (i : ∀ E σ H, t' E σ H → t E σ H) : PS X st t' := ⟨fun pins s σ H E I q => h.run pins s σ H E I (i E σ H q)⟩
theorem _root_.L2.PSs.imp {X : Cx} {st : List Stmt} {t t' : TS} (h : PSs X st t) (i : ∀ E σ H, t' E σ H → t E σ H) : PSs X st t' := ⟨fun pins s σ H E I q => h.run pins s σ H E I (i E σ H q)⟩
def nextS : DS := fun ρ => some (.nx ρ)
def seqS (δ ε : DS) : DS := fun ρ => match δ ρ with
  | some (.nx ρ1) => ε ρ1
  | some (.rt d) => some (.rt d)
  | some (.bk ρ1) => some (.bk ρ1)
  | some (.ct ρ1) => some (.ct ρ1)
  | none => none
section
variable {X : Cx} {st : Stmt} {rest sts : List Stmt} {δ ε : DS} {pos : Pos} {e : Expr} {δe : DE}
theorem pdss_nil : PDSs X [] nextS := pss_nil.imp fun E σ H ⟨F0, H0, ρ, F, fl, S, e, q⟩ => by
  cases e
  exact q F σ H (Same.refl _) S
theorem pdss_one (h : PDS X st δ) : PDSs X [st] δ := pss_one h
theorem pdss_cons (h1 : PDS X st δ) (h2 : PDSs X rest ε) : PDSs X (st :: rest) (seqS δ ε) := (pss_cons h1 h2).imp fun E σ H ⟨F0, H0, ρ, F, fl, S, e, q⟩ => by
  unfold seqS at e
  split at e
  · rename_i ρ1 e1
    exact ⟨F0, H0, ρ, F, _, S, e1, fun F1 σ1 H1 s1 S1 => ⟨F0, H0, ρ1, F1, fl, S1, e, q.mono s1⟩⟩
  · rename_i d e1
    cases e
    exact ⟨F0, H0, ρ, F, _, S, e1, q⟩
  · rename_i d e1
    cases e
    exact ⟨F0, H0, ρ, F, _, S, e1, q⟩
  · rename_i d e1
    cases e
    exact ⟨F0, H0, ρ, F, _, S, e1, q⟩
  · cases e
def frzS (i : Nat) (δ : DS) : DS := fun ρ => δ (frz i ρ)
theorem pds_frz (i : Nat) (h : PDS X st δ) : PDS X st (frzS i δ) := h.imp fun E σ H ⟨F0, H0, ρ, F, fl, S, e, q⟩ => by
  obtain ⟨F1, s1, S1⟩ := S.frz i
  exact ⟨F0, H0, _, F1, fl, S1, e, q.mono s1⟩
theorem pdss_frz (i : Nat) (h : PDSs X sts δ) : PDSs X sts (frzS i δ) := h.imp fun E σ H ⟨F0, H0, ρ, F, fl, S, e, q⟩ => by
  obtain ⟨F1, s1, S1⟩ := S.frz i
  exact ⟨F0, H0, _, F1, fl, S1, e, q.mono s1⟩
def neverS : DS := fun _ => none
theorem pds_never : PDS X st neverS := ps_never.imp fun E σ H ⟨F0, H0, ρ, F, fl, S, e, q⟩ => by cases e
theorem pdss_never : PDSs X sts neverS := pss_never.imp fun E σ H ⟨F0, H0, ρ, F, fl, S, e, q⟩ => by cases e
theorem pds_pass : PDS X (.Pass pos) nextS := ps_pass.imp fun E σ H ⟨F0, H0, ρ, F, fl, S, e, q⟩ => by
  cases e
  exact q F σ H (Same.refl _) S
def bkS : DS := fun ρ => some (.bk ρ)
def ctS : DS := fun ρ => some (.ct ρ)
theorem pds_break : PDS X (.Break pos) bkS := ps_break.imp fun E σ H ⟨F0, H0, ρ, F, fl, S, e, q⟩ => by
  cases e
  exact q F σ H (Same.refl _) S
theorem pds_continue : PDS X (.Continue pos) ctS := ps_continue.imp fun E σ H ⟨F0, H0, ρ, F, fl, S, e, q⟩ => by
  cases e
  exact q F σ H (Same.refl _) S
def retS (δ : DE) : DS := fun ρ => match δ ρ with
  | some d => some (.rt d)
  | none => none
theorem pds_ret (he : PDE X e δe) : PDS X (.Return (some e) pos) (retS δe) := (ps_ret he).imp fun E σ H ⟨F0, H0, ρ, F, fl, S, e, q⟩ => by
  unfold retS at e
  split at e
  · rename_i d e1
    cases e
    exact ⟨F0, H0, ρ, F, d, S, e1, fun F1 v H1 g1 r1 => q F1 v ρ σ H1 g1.ff (S.gr g1) r1⟩
  · cases e
def retN : DS := fun _ => some (.rt .non)
theorem pds_retN : PDS X (.Return none pos) retN := ps_retN.imp fun E σ H ⟨F0, H0, ρ, F, fl, S, e, q⟩ => by
  cases e
  exact q F .non ρ σ H (Same.refl _) S rfl
def ifS (c : DT) (δ ε : DS) : DS := fun ρ => match c ρ with
  | some true => δ ρ
  | some false => ε ρ
  | none => none
theorem pds_if {c : Expr} {a b : List Stmt} {δt : DT} (hc : PDT X c δt) (ha : PDSs X a δ) (hb : PDSs X b ε) : PDS X (.If c a b pos) (ifS δt δ ε) := (ps_if hc ha hb).imp fun E σ H ⟨F0, H0, ρ, F, fl, S, e, q⟩ => by
  unfold ifS at e
  split at e
  · rename_i e1
    exact ⟨F0, H0, ρ, F, true, S, e1, fun F1 H1 g1 => iteT ⟨F0, H0, ρ, F1, fl, S.gr g1, e, q.mono g1.ff⟩⟩
  · rename_i e1
    exact ⟨F0, H0, ρ, F, false, S, e1, fun F1 H1 g1 => iteF ⟨F0, H0, ρ, F1, fl, S.gr g1, e, q.mono g1.ff⟩⟩
  · cases e
def dropS (δ : DE) : DS := fun ρ => match δ ρ with
  | some _ => some (.nx ρ)
  | none => none
theorem pds_expr (he : PDE X e δe) (hs : swapsWith e none pos.line X.env = pure false := by rfl) : PDS X (.Expr e pos) (dropS δe) := (ps_expr he hs).imp fun E σ H ⟨F0, H0, ρ, F, fl, S, e, q⟩ => by
  unfold dropS at e
  split at e
  · rename_i d e1
    cases e
    exact ⟨F0, H0, ρ, F, d, S, e1, fun F1 v H1 g1 r1 => q F1 σ H1 g1.ff (S.gr g1)⟩
  · cases e
def setS (i : Nat) (δ : DE) : DS := fun ρ => match δ ρ with
  | some d => some (.nx (ρ.set i (.sh d)))
  | none => none
theorem set_of {K : PySem.W.Frag} {mg : Mg} {i : Nat} (E : Ends) (σ : St) (H : Hp) (h : cS K mg (setS i δe) E σ H) : tAsg (cE K mg δe) (gName i) E σ H := by
  obtain ⟨F0, H0, ρ, F, fl, S, e, q⟩ := h
  unfold setS at e
  split at e
  · rename_i d e1
    cases e
    exact ⟨F0, H0, ρ, F, d, S, e1, fun F1 v H1 g1 r1 => q F1 _ H1 g1.ff ((S.gr g1).set' r1)⟩
  · cases e
theorem pds_set {i : Nat} {x : Str} {pos' : Pos} (hN : X.N.Nodup) (hi : X.N[i]? = some x) (hx : Loc X.env.scope x) (he : PDE X e δe) (hs : swapsWith e (some (.Name x pos')) pos.line X.env = pure false := by rfl)
    (hf : X.fn x = true ∨ X.env.scope.names.lookup x = some .local := by first | exact .inl rfl | exact .inr rfl | assumption) : PDS X (.Assign [.Name x pos'] e pos) (setS i δe) := (ps_set hN hi hx he hs hf).imp set_of
def setO (i : Nat) (δ : DA) : DS := fun ρ => match δ ρ with
  | some ds => if i < ρ.length then some (.nx (ρ.set i (.ow ds))) else none
  | none => none
theorem setO_of {K : PySem.W.Frag} {mg : Mg} {i : Nat} {δs : DA} (E : Ends) (σ : St) (H : Hp) (h : cS K mg (setO i δs) E σ H) : tAsg (cO K mg δs) (gName i) E σ H := by
  obtain ⟨F0, H0, ρ, F, fl, S, e, q⟩ := h
  unfold setO at e
  split at e
  · rename_i ds e1
    split at e
    · rename_i hi
      cases e
      refine ⟨F0, H0, ρ, F, ds, S, e1, fun F1 a vs H1 g1 ha hf hH r1 => q F1 _ H1 g1.ff ?_⟩
      refine (S.gr g1).setO hi (S.h0.free ha) hf hH r1 fun j lv ej oj => ?_
      exact (S.ownF ej (((S.at_ j lv ej).keep g1.ff fun b o ow hb fb => ⟨g1.nw b (by rw [hb]; exact fun z => nomatch z) fb, g1.hh _ _ hb⟩).2 a oj)).2.2 ha
    · cases e
  · cases e
theorem pds_setO {i : Nat} {x : Str} {pos' : Pos} {δs : DA} (hN : X.N.Nodup) (hi : X.N[i]? = some x) (hx : Loc X.env.scope x) (he : PDO X e δs) (hs : swapsWith e (some (.Name x pos')) pos.line X.env = pure false := by rfl)
    (hf : X.fn x = true ∨ X.env.scope.names.lookup x = some .local := by first | exact .inl rfl | exact .inr rfl | assumption) : PDS X (.Assign [.Name x pos'] e pos) (setO i δs) := (ps_set hN hi hx he hs hf).imp setO_of
theorem ps_setLcO {i : Nat} {y : Str} {py : Pos} {elt tg iter : Expr} {ifs : List Expr} {scope : Scope} {own : List (Str × Nat)} {is : List Nat} {spos : Pos} {δi : DA} {γ : DG} {δt : DT} {δl : DE} (hc : X.calm = true) (hN : X.N.Nodup) (hy : X.N[i]? = some y) (hyl : X.env.scope.names.lookup y = some .local)
    (hsw : swapsWith (.ListComp elt [⟨tg, iter, ifs, 0⟩] scope pos) (some (.Name y py)) spos.line X.env = pure true) (hi : PDI X tg iter δi) (ok : BlkOk X.N X.env.scope scope own)
    (hg : ∀ (s : Shared) (H : Hp) (C : Addr) (cl : List (Str × Addr)) (fp : List Addr), PDG (X.blk s H scope (compEnvC scope cl C X.env) fp) tg γ is) (ht : ∀ (s : Shared) (H : Hp) (C : Addr) (cl : List (Str × Addr)) (fp : List Addr), PDTs (X.blk s H scope (compEnvC scope cl C X.env) fp) ifs δt)
    (he : ∀ (s : Shared) (H : Hp) (C : Addr) (cl : List (Str × Addr)) (fp : List Addr), PDE (X.blk s H scope (compEnvC scope cl C X.env) fp) elt δl) (hs : ∀ x, foldedSetIterable iter X.env x = pure x := by intro _; rfl) (hv : ∀ i ∈ is, i ∈ own.map (·.2) := by decide) :
    PS X (.Assign [.Name y py] (.ListComp elt [⟨tg, iter, ifs, 0⟩] scope pos) spos) (tAsg (cO X.K X.mg (lcO (own.map (·.2)) δi γ δt δl)) (gName i)) :=
  (ps_setLc hc hN hy hyl hsw hi ok hg ht he hs).imp fun E σ H h => lc_of hv σ H _ h
theorem pds_asgO {i : Nat} {δs : DA} (h : PS X st (tAsg (cO X.K X.mg δs) (gName i))) : PDS X st (setO i δs) := h.imp setO_of
theorem pds_asgL {i : Nat} {δs : DA} (h : PS X st (tAsg (cO X.K X.mg δs) (gName i))) : PDS X st (setS i (oE δs)) := h.imp fun E σ H ⟨F0, H0, ρ, F, fl, S, e, q⟩ => by
  unfold setS oE at e
  split at e
  · rename_i d e1
    cases e
    split at e1
    · rename_i ds e2
      cases e1
      exact ⟨F0, H0, ρ, F, ds, S, e2, fun F1 a vs H1 g1 ha hf hH r1 => q _ _ H1 (g1.know ha hf hH).ff ((S.gr (g1.know ha hf hH)).set' ⟨a, vs, rfl, upd_same, r1.mono (same_new hf)⟩)⟩
    · cases e1
  · cases e
def asgS (δ : DE) (γ : DG) : DS := fun ρ => match δ ρ with
  | some d => match γ d ρ with
    | some ρ1 => some (.nx ρ1)
    | none => none
  | none => none
theorem pds_asg {tg : Expr} {γ : DG} {is : List Nat} (he : PDE X e δe) (hg : PDG X tg γ is) (hs : swapsWithSole [tg] e pos.line X.env = pure false := by rfl) (hw : swappedStores [tg] e X.env = pure none := by rfl)
    (h1 : (assignEach [tg] X.env).map (·.2) = [assign tg X.env] := by rfl) : PDS X (.Assign [tg] e pos) (asgS δe γ) := (ps_asg he hg hs hw h1).imp fun E σ H ⟨F0, H0, ρ, F, fl, S, e, q⟩ => by
  unfold asgS at e
  split at e
  · rename_i d e1
    split at e
    · rename_i ρ1 e2
      cases e
      exact ⟨F0, H0, ρ, F, d, S, e1, fun F1 v H1 g1 r1 => ⟨F0, H0, ρ, F1, d, ρ1, S.gr g1, r1, e2, fun σ' S' _ _ => q F1 σ' H1 g1.ff S'⟩⟩
    · cases e
  · cases e
def augS (i : Nat) (f : Int → Int → Int) (δ : DE) : DS := fun ρ => match ρ[i]? with
  | some (.sh (.int a)) => match δ ρ with
    | some (.int b) => some (.nx (ρ.set i (.sh (.int (f a b)))))
    | _ => none
  | _ => none
theorem pds_aug {i : Nat} {x : Str} {op : Operator} {f : Int → Int → Int} {pos' : Pos} (hN : X.N.Nodup) (hi : X.N[i]? = some x) (hx : Loc X.env.scope x) (he : PDE X e δe) (ho : PIp X op (ipI f))
    (hf : X.fn x = true ∨ X.env.scope.names.lookup x = some .local := by first | exact .inl rfl | exact .inr rfl | assumption) : PDS X (.AugAssign (.Name x pos') op e pos) (augS i f δe) := (ps_aug hN hi hx he ho hf).imp fun E σ H ⟨F0, H0, ρ, F, fl, S, e, q⟩ => by
  unfold augS at e
  split at e
  · rename_i a e1
    split at e
    · rename_i b e2
      cases e
      obtain ⟨v, h1, h2⟩ := S.at_ i _ e1
      exact ⟨v, h1, F0, H0, ρ, F, _, S, e2, fun F1 w H1 g1 r1 => ⟨a, b, h2, r1, q F1 _ H1 g1.ff ((S.gr g1).set' rfl)⟩⟩
    · cases e
  · cases e
def forL (γ : DG) (δ : DS) : List D → Env → Option Fl
  | [], ρ => some (.nx ρ)
  | d :: ds, ρ => match γ d ρ with
    | some ρ1 => match δ ρ1 with
      | some (.nx ρ2) => forL γ δ ds ρ2
      | some (.ct ρ2) => forL γ δ ds ρ2
      | some (.bk ρ2) => some (.nx ρ2)
      | some (.rt z) => some (.rt z)
      | none => none
    | none => none
def forS (δi : DA) (γ : DG) (δ : DS) : DS := fun ρ => match δi ρ with
  | some ds => forL γ δ ds ρ
  | none => none
theorem pds_for {tg iter : Expr} {body : List Stmt} {δi : DA} {γ : DG} {is : List Nat} (hp : PassesOwn (model X.prog X.w) X.A X.env X.xe) (hc : X.calm = true) (hi : PDI X tg iter δi) (hg : PDG X tg γ is) (hb : PDSs X body δ)
    (hs : ∀ x, foldedSetIterable iter X.env x = pure x := by intro _; rfl) : PDS X (.For tg iter body [] pos) (forS δi γ δ) := (ps_for hp hc hi hg hb hs).imp fun E σ H ⟨F0, H0, ρ, F, fl, S, e, q⟩ => by
  unfold forS at e
  split at e
  · rename_i ds e1
    refine ⟨F0, H0, ρ, F, ds, S, e1, fun F1 J H1 g1 it => ?_⟩
    refine ⟨fun i m σ2 H2 => m = ds.length - i ∧ i ≤ ds.length ∧ ∃ ρ2 F2, Same F1 F2 ∧ SR X.K X.mg F0 H0 ρ2 F2 σ2 H2 ∧ forL γ δ (ds.drop i) ρ2 = some fl, ⟨ds.length, rfl, Nat.zero_le _, ρ, F1, Same.refl _, S.gr g1, e⟩, fun i m σ2 H2 hW => ?_⟩
    obtain ⟨rfl, hil, ρ2, F2, s2, S2, e2⟩ := hW
    by_cases hlt : i < ds.length
    · have ed : ds.drop i = ds[i] :: ds.drop (i + 1) := List.drop_eq_getElem_cons hlt
      rw [ed] at e2
      unfold forL at e2
      refine .inr ⟨it.go i H2 (s2.trans S2.fh) hlt, fun σ3 H3 => ∃ ρ2 F2, Same F1 F2 ∧ SR X.K X.mg F0 H0 ρ2 F2 σ3 H3 ∧ forL γ δ (ds.drop (i + 1)) ρ2 = some fl, fun σ3 H3 w => ⟨ds.length - (i + 1), by omega, rfl, hlt, w⟩, fun x H3 y => ?_⟩
      obtain ⟨F3, g3, r3⟩ := it.yld i H2 x H3 ds[i] (s2.trans S2.fh) (List.getElem?_eq_getElem hlt) y F2 s2 S2.fh
      split at e2
      · rename_i ρ3 eg
        refine ⟨F0, H0, ρ2, F3, ds[i], ρ3, S2.gr g3, r3, eg, fun σ4 S4 _ _ => ?_⟩
        have s3 : Same F1 F3 := s2.trans g3.ff
        split at e2
        · rename_i ρ4 eb
          exact ⟨F0, H0, ρ3, F3, _, S4, eb, fun F5 σ5 H5 s5 S5 => ⟨ρ4, F5, s3.trans s5, S5, e2⟩⟩
        · rename_i ρ4 eb
          exact ⟨F0, H0, ρ3, F3, _, S4, eb, fun F5 σ5 H5 s5 S5 => ⟨ρ4, F5, s3.trans s5, S5, e2⟩⟩
        · rename_i ρ4 eb
          cases e2
          exact ⟨F0, H0, ρ3, F3, _, S4, eb, fun F5 σ5 H5 s5 S5 => q F5 σ5 H5 (g1.ff.trans (s3.trans s5)) S5⟩
        · rename_i z eb
          cases e2
          exact ⟨F0, H0, ρ3, F3, _, S4, eb, fun F5 v ρ5 σ5 H5 s5 S5 r5 => q F5 v ρ5 σ5 H5 (g1.ff.trans (s3.trans s5)) S5 r5⟩
        · cases e2
      · cases e2
    · have ei : i = ds.length := by omega
      refine .inl ⟨by rw [ei]; exact it.stop H2 (s2.trans S2.fh), ?_⟩
      rw [ei, List.drop_length] at e2
      cases e2
      exact q F2 σ2 H2 (g1.ff.trans s2) S2
  · cases e
def whL (c : DT) (δ : DS) : Nat → Env → Option Fl
  | 0, _ => none
  | n + 1, ρ => match c ρ with
    | some false => some (.nx ρ)
    | some true => match δ ρ with
      | some (.nx ρ2) => whL c δ n ρ2
      | some (.ct ρ2) => whL c δ n ρ2
      | some (.bk ρ2) => some (.nx ρ2)
      | some (.rt z) => some (.rt z)
      | none => none
    | none => none
def whS (fuel : Nat) (c : DT) (δ : DS) : DS := fun ρ => whL c δ fuel ρ
theorem pds_while {c : Expr} {body : List Stmt} {δt : DT} (fuel : Nat) (hp : PassesOwn (model X.prog X.w) X.A X.env X.xe) (hc : PDT X c δt) (hb : PDSs X body δ) : PDS X (.While c body [] pos) (whS fuel δt δ) := (ps_while hp hc hb).imp fun E σ H ⟨F0, H0, ρ, F, fl, S, e, q⟩ => by
  refine ⟨fun m σ2 H2 => ∃ ρ2 F2, Same F F2 ∧ SR X.K X.mg F0 H0 ρ2 F2 σ2 H2 ∧ whL δt δ m ρ2 = some fl, ⟨fuel, ρ, F, Same.refl _, S, e⟩, fun m σ2 H2 hW => ?_⟩
  obtain ⟨ρ2, F2, s2, S2, e2⟩ := hW
  cases m with
  | zero => cases e2
  | succ m =>
    unfold whL at e2
    split at e2
    · rename_i et
      cases e2
      exact ⟨F0, H0, ρ2, F2, false, S2, et, fun F3 H3 g3 => iteF (q F3 σ2 H3 (s2.trans g3.ff) (S2.gr g3))⟩
    · rename_i et
      refine ⟨F0, H0, ρ2, F2, true, S2, et, fun F3 H3 g3 => iteT ?_⟩
      refine ⟨fun σ4 H4 => ∃ ρ2 F2, Same F F2 ∧ SR X.K X.mg F0 H0 ρ2 F2 σ4 H4 ∧ whL δt δ m ρ2 = some fl, fun σ4 H4 w => ⟨m, Nat.lt_succ_self _, w⟩, ?_⟩
      have s3 := s2.trans g3.ff
      split at e2
      · rename_i ρ4 eb
        exact ⟨F0, H0, ρ2, F3, _, S2.gr g3, eb, fun F5 σ5 H5 s5 S5 => ⟨ρ4, F5, s3.trans s5, S5, e2⟩⟩
      · rename_i ρ4 eb
        exact ⟨F0, H0, ρ2, F3, _, S2.gr g3, eb, fun F5 σ5 H5 s5 S5 => ⟨ρ4, F5, s3.trans s5, S5, e2⟩⟩
      · rename_i ρ4 eb
        cases e2
        exact ⟨F0, H0, ρ2, F3, _, S2.gr g3, eb, fun F5 σ5 H5 s5 S5 => q F5 σ5 H5 (s3.trans s5) S5⟩
      · rename_i z eb
        cases e2
        exact ⟨F0, H0, ρ2, F3, _, S2.gr g3, eb, fun F5 v ρ5 σ5 H5 s5 S5 r5 => q F5 v ρ5 σ5 H5 (s3.trans s5) S5 r5⟩
      · cases e2
    · cases e2
end
end DL
namespace DL
open PySem L2
def MutD (K : PySem.W.Frag) (mg : Mg) (r : V → List V → Hp → VK → Prop) (f : List D → List D → Option (List D)) : Prop :=
  ∀ (F H : Hp) (a : Addr) (vs xs : List V) (ds as ds' : List D) (Q : VK), Same F H → F a = none → H a = some (.lst vs) → RepL K mg F ds vs → RepL K mg F as xs → f ds as = some ds' →
    (∀ v vs', RepL K mg F ds' vs' → Q v (upd H a (.lst vs'))) → r (.ref a) xs H Q
def mutS (i : Nat) (f : List D → List D → Option (List D)) (δ : DA) : DS := fun ρ => match ρ[i]? with
  | some (.ow ds) => match δ ρ with
    | some as => match f ds as with
      | some ds' => some (.nx (ρ.set i (.ow ds')))
      | none => none
    | none => none
  | _ => none
section
variable {X : Cx} {st : Stmt} {δ ε : DS} {pos apos cpos : Pos} {e : Expr} {es : List Expr} {δe δi : DE} {δs : DA}
theorem mut_of {K : PySem.W.Frag} {mg : Mg} {i : Nat} {r : V → List V → Hp → VK → Prop} {f : List D → List D → Option (List D)} (hf : MutD K mg r f) (E : Ends) (σ : St) (H : Hp) (h : cS K mg (mutS i f δs) E σ H) :
    tDrop (tBM K "list" r (tVar i) (cA K mg δs)) E σ H := by
  obtain ⟨F0, H0, ρ, F, fl, S, e, q⟩ := h
  unfold mutS at e
  split at e
  · rename_i ds e1
    split at e
    · rename_i as e2
      split at e
      · rename_i ds' e3
        cases e
        obtain ⟨a, vs, h1, h2, h3, h4, h5⟩ := S.at_ i _ e1
        refine ⟨.ref a, h1, .inl ⟨rfl, _, SqL.of h4⟩, F0, H0, ρ, F, as, S, e2, fun F1 xs H1 g1 r1 => ?_⟩
        have S1 := S.gr g1
        have f1 : F1 a = none := g1.nw a (by rw [h4]; exact fun z => nomatch z) h3
        refine hf F1 H1 a vs xs ds as ds' _ g1.fh f1 (g1.hh _ _ h4) (h5.mono g1.ff) r1 e3 fun v vs' r2 => ?_
        exact q F1 σ _ g1.ff (S1.write e1 h1 ⟨a, vs', h1, h2, f1, upd_same, r2⟩ fun b o => .inl o)
      · cases e
    · cases e
  · cases e
def dApp : List D → List D → Option (List D)
  | ds, [d] => if ds.length < sizeLine then some (ds ++ [d]) else none
  | _, _ => none
theorem mutd_app {K : PySem.W.Frag} {mg : Mg} : MutD K mg rAppend dApp := fun F H a vs xs ds as ds' Q fh f hH r1 r2 h q => by
  unfold dApp at h
  split at h
  · split at h
    · rename_i hl
      cases h
      obtain ⟨v, w, rfl, h1, h2⟩ := r2
      rw [show w = [] from h2]
      exact ⟨a, vs, v, rfl, rfl, hH, by rw [r1.len]; exact hl, q _ _ (r1.app (RepL.one h1))⟩
    · cases h
  · cases h
def dExt : List D → List D → Option (List D)
  | ds, [.lst es] => if ds.length + es.length ≤ sizeLine then some (ds ++ es) else none
  | _, _ => none
theorem mutd_ext {K : PySem.W.Frag} {mg : Mg} : MutD K mg rExtend dExt := fun F H a vs xs ds as ds' Q fh f hH r1 r2 h q => by
  unfold dExt at h
  split at h
  · split at h
    · rename_i hl
      cases h
      obtain ⟨v, w, rfl, h1, h2⟩ := r2
      rw [show w = [] from h2]
      obtain ⟨b, ws, rfl, h3, h4⟩ := h1
      exact ⟨a, b, vs, ws, rfl, rfl, hH, fh _ _ h3, by rw [r1.len, h4.len]; exact hl, q _ _ (r1.app h4)⟩
    · cases h
  · cases h
def dIns : List D → List D → Option (List D)
  | ds, [.int i, d] => if ds.length < sizeLine ∧ 0 ≤ i ∧ i < 2 ^ 63 then some (ds.take i.toNat ++ [d] ++ ds.drop i.toNat) else none
  | _, _ => none
def rInsert : V → List V → Hp → VK → Prop := fun x vs H Q => ∃ (l : Addr) (xs : List V) (i : Int) (y : V), x = .ref l ∧ vs = [.int i, y] ∧ H l = some (.lst xs) ∧ xs.length < sizeLine ∧ 0 ≤ i ∧ i < 2 ^ 63 ∧
    Q .non (upd H l (.lst (xs.take i.toNat ++ [y] ++ xs.drop i.toNat)))
theorem mutd_ins {K : PySem.W.Frag} {mg : Mg} : MutD K mg rInsert dIns := fun F H a vs xs ds as ds' Q fh f hH r1 r2 h q => by
  unfold dIns at h
  split at h
  · split at h
    · rename_i i d hl
      cases h
      obtain ⟨v, w, rfl, h1, v2, w2, rfl, h2, h3⟩ := r2
      rw [show w2 = [] from h3]
      exact ⟨a, vs, i, v2, rfl, by rw [show v = _ from h1], hH, by rw [r1.len]; exact hl.1, hl.2.1, hl.2.2, q _ _ (((r1.take _).app (RepL.one h2)).app (r1.drop _))⟩
    · cases h
  · cases h
theorem pds_mut {i : Nat} {x name : Str} {id : String} {r : V → List V → Hp → VK → Prop} {f : List D → List D → Option (List D)} {px : Pos} (slot : Slot "list" name id) (hty : typeOf (.builtin id) = pure (.type "method_descriptor")) (hm : MtR X id r) (hf : MutD X.K X.mg r f)
    (hN : X.N[i]? = some x) (hv : Vis X.env.scope x) (ha : PDA X (e :: es) δs) (hd : (x == ("__debug__" : Str)) = false := by decide) (hcd : (x == ("__classdict__" : Str)) = false := by decide)
    (hbase : attributeBase (.Name x px) name X.env (eval (.Name x px) X.env) = eval (.Name x px) X.env := by rfl)
    (hfew : ((backTo cpos (starEach (e :: es) X.env)).all (fun x => !x.1) && (backToKw cpos (keywordEach [] X.env)).all (fun x => x.1.isSome)
      && decide ((e :: es).length + ([] : List Keyword).length + (if ([] : List Keyword).isEmpty then 0 else 1) < 30)) = true := by rfl)
    (hline : (apos.endLine == cpos.line) = true := by rfl) (hs : starEach (e :: es) X.env = (false, eval e X.env) :: starEach es X.env := by rfl) (hplain : (backTo cpos (starEach es X.env)).any (·.1) = false := by rfl)
    (hsw : swapsWith (.Call (.Attribute (.Name x px) name apos) (e :: es) [] cpos) none pos.line X.env = pure false := by rfl) :
    PDS X (.Expr (.Call (.Attribute (.Name x px) name apos) (e :: es) [] cpos) pos) (mutS i f δs) :=
  (ps_expr (pe_bm PySem.F.plainAttrs_list slot hty hm (pe_var hN hv hd hcd) ha hbase hfew hline hs hplain) hsw).imp (mut_of hf)
def stS (i : Nat) (δi δe : DE) : DS := fun ρ => match δe ρ with
  | some d => match ρ[i]? with
    | some (.ow ds) => match δi ρ with
      | some (.int k) => match ixN ds.length k with
        | some j => some (.nx (ρ.set i (.ow (ds.set j d))))
        | none => none
      | _ => none
    | _ => none
  | none => none
theorem pds_setix {i : Nat} {x : Str} {px : Pos} {ix : Expr} (hN : X.N[i]? = some x) (hv : Vis X.env.scope x) (he : PDE X e δe) (hi : PDV X ix δi) (hd : (x == ("__debug__" : Str)) = false := by decide) (hcd : (x == ("__classdict__" : Str)) = false := by decide)
    (ha : ∀ v, assign (.Subscript (.Name x px) ix apos) X.env v = (do
      let ov ← holding [v] (eval (.Name x px) X.env)
      let iv ← holding [v, ov] (eval ix X.env)
      standAt apos
      holding [v, ov, iv] (setItem ov iv v)
      release [v, ov, iv] []) := by intro _; rfl)
    (hs : swapsWithSole [.Subscript (.Name x px) ix apos] e pos.line X.env = pure false := by rfl) (hw : swappedStores [.Subscript (.Name x px) ix apos] e X.env = pure none := by rfl)
    (h1 : (assignEach [.Subscript (.Name x px) ix apos] X.env).map (·.2) = [assign (.Subscript (.Name x px) ix apos) X.env] := by rfl) :
    PDS X (.Assign [.Subscript (.Name x px) ix apos] e pos) (stS i δi δe) := (ps_asg he (pg_sub (pe_var hN hv hd hcd) hi set_list ha) hs hw h1).imp fun E σ H ⟨F0, H0, ρ, F, fl, S, e, q⟩ => by
  unfold stS at e
  split at e
  · rename_i d e1
    split at e
    · rename_i ds e2
      split at e
      · rename_i k e3
        split at e
        · rename_i j e4
          cases e
          refine ⟨F0, H0, ρ, F, d, S, e1, fun F1 v H1 g1 r1 => ?_⟩
          have S1 := S.gr g1
          obtain ⟨a, vs, h1, h2, h3, h4, h5⟩ := S1.at_ i _ e2
          refine ⟨.ref a, h1, F0, H0, ρ, F1, _, S1, e3, fun F2 w H2 g2 r2 => ?_⟩
          have f2 : F2 a = none := g2.nw a (by rw [h4]; exact fun z => nomatch z) h3
          have r5 := h5.mono g2.ff
          refine ⟨a, vs, k, j, rfl, r2, g2.hh _ _ h4, by rw [r5.len]; exact e4, ?_⟩
          exact q F2 σ _ (g1.ff.trans g2.ff) ((S1.gr g2).write e2 h1 ⟨a, _, h1, h2, f2, upd_same, r5.set (r1.mono g2.ff) j⟩ fun b o => .inl o)
        · cases e
      · cases e
    · cases e
  · cases e
theorem pget_list : PGet X (rIxL X.K) := by
  intro pins s σ H o i ov iv Q I r1 r2 h
  obtain ⟨p, xs, k, z, rfl, rfl, hq, he, q⟩ := h
  cases r1
  obtain ⟨t, rfl⟩ := r2
  obtain ⟨its, r, pl, hz⟩ := I.list hq
  obtain ⟨j, h1, h2, h3, h4, h5⟩ := atI_get he
  obtain ⟨w, ew, rw'⟩ := r.get h2
  have hl := r.length
  have hn := line63
  have fin : EP X pins σ Q w s := ⟨z, H, I, rw', q⟩
  by_cases h0 : 0 ≤ k
  · have hj : k.toNat = j := by
      rw [seqIndex_of h0 h5] at h1
      exact Option.some.inj h1
    exact wpAny_getItem_list pl.isList h0 (by omega) (by rw [hj]; simpa using ew) fin
  · have hj : (k + (its.toArray.size : Int)).toNat = j := by
      rw [seqIndex_neg (by omega) h4] at h1
      rw [List.size_toArray, ← hl]
      exact Option.some.inj h1
    exact wpAny_getItem_list_neg pl.isList (by omega) (by rw [List.size_toArray] <;> omega) (by omega) (by rw [hj]; simpa using ew) fin
def augixS (i : Nat) (f : Int → Int → Int) (δi δe : DE) : DS := fun ρ => match ρ[i]? with
  | some (.ow ds) => match δi ρ with
    | some (.int k) => match ixN ds.length k with
      | some j => match ds[j]? with
        | some (.int a) => match δe ρ with
          | some (.int b) => some (.nx (ρ.set i (.ow (ds.set j (.int (f a b))))))
          | _ => none
        | _ => none
      | none => none
    | _ => none
  | _ => none
theorem pds_augix {i : Nat} {x : Str} {px : Pos} {ix : Expr} {op : Operator} {f : Int → Int → Int} (hN : X.N[i]? = some x) (hv : Vis X.env.scope x) (hi : PDV X ix δi) (he : PDV X e δe) (hop : PIp X op (ipI f)) (hd : (x == ("__debug__" : Str)) = false := by decide) (hcd : (x == ("__classdict__" : Str)) = false := by decide)
    (ha : ∀ ov iv new, augStore ix ov iv new = (do holding [new, ov, iv] (setItem ov iv new); release [new, ov, iv] []; pure .next) := by intros; rfl) :
    PDS X (.AugAssign (.Subscript (.Name x px) ix apos) op e pos) (augixS i f δi δe) := (ps_augS (pe_var hN hv hd hcd) hi pget_list he hop set_list ha).imp fun E σ H ⟨F0, H0, ρ, F, fl, S, e, q⟩ => by
  unfold augixS at e
  split at e
  · rename_i ds e2
    split at e
    · rename_i k e3
      split at e
      · rename_i j e4
        split at e
        · rename_i x e5
          split at e
          · rename_i y e6
            cases e
            obtain ⟨a, vs, h1, h2, h3, h4, h5⟩ := S.at_ i _ e2
            refine ⟨.ref a, h1, F0, H0, ρ, F, _, S, e3, fun F1 w H1 g1 r1 => ?_⟩
            have f1 : F1 a = none := g1.nw a (by rw [h4]; exact fun z => nomatch z) h3
            have r5 := h5.mono g1.ff
            obtain ⟨v, hv1, hv2⟩ := r5.get e5
            refine ⟨a, vs, k, .int x, rfl, r1, SqL.of (g1.hh _ _ h4), ?_, F0, H0, ρ, F1, _, S.gr g1, e6, fun F2 u H2 g2 r2 => ⟨x, y, rfl, r2, ?_⟩⟩
            · unfold atI
              rw [r5.len, e4]
              show vs[j]? = _
              rw [hv1, show v = _ from hv2]
            · have f2 : F2 a = none := g2.nw a (by rw [g1.hh _ _ h4]; exact fun z => nomatch z) f1
              have r6 := r5.mono g2.ff
              refine ⟨a, vs, k, j, rfl, r1, g2.hh _ _ (g1.hh _ _ h4), by rw [r6.len]; exact e4, ?_⟩
              exact q F2 σ _ (g1.ff.trans g2.ff) (((S.gr g1).gr g2).write e2 h1 ⟨a, _, h1, h2, f2, upd_same, r6.set (d := .int (f x y)) rfl j⟩ fun b o => .inl o)
          · cases e
        · cases e
      · cases e
    · cases e
  · cases e
end
def fldE (c f : Str) (δ : DE) : DE := fun ρ => match δ ρ with
  | some (.ob c' fs) => if c' = c then fs.lookup f else none
  | _ => none
def putD (f : Str) (v : D) : List (Str × D) → List (Str × D)
  | [] => [(f, v)]
  | (g, u) :: r => if g = f then (g, v) :: r else (g, u) :: putD f v r
theorem putD_rep {K : PySem.W.Frag} {mg : Mg} {F : Hp} {f : Str} {d : D} {v : V} (h : Rep K mg F d v) : ∀ {fs : List (Str × D)} {vs : List (Str × V)}, RepF K mg F fs vs → RepF K mg F (putD f d fs) (putF f v vs)
  | [], _, r => by
    rw [show _ = [] from r]
    exact ⟨v, [], rfl, h, rfl⟩
  | (g, u) :: fs, _, ⟨w, r, e, h1, h2⟩ => by
    rw [e]
    unfold putD putF
    by_cases q : g = f
    · rw [if_pos q, if_pos q]
      exact ⟨v, r, rfl, h, h2⟩
    · rw [if_neg q, if_neg q]
      exact ⟨w, _, rfl, h1, putD_rep h h2⟩
section
variable {X : Cx} {pos pos' : Pos} {e o value : Expr} {δ δv : DE} {c f : Str} {C : Addr}
theorem pde_fld (hm : X.mg c = some (.ref C)) (cl : Cls X.K C) (na : NoAttr X.K C f) (he : PDE X e δ) (hb : attributeBase e f X.env (eval e X.env) = eval e X.env := by rfl) : PDE X (.Attribute e f pos) (fldE c f δ) :=
  (pe_fld he hb).imp fun σ H Q ⟨F0, H0, ρ, F, z, S, hd, q⟩ => by
    unfold fldE at hd
    split at hd
    · rename_i c' fs e1
      split at hd
      · rename_i ec
        subst ec
        refine ⟨F0, H0, ρ, F, _, S, e1, fun F1 v H1 g1 r1 => ?_⟩
        obtain ⟨a, C', dx, vs, rfl, h1, h2, h3⟩ := r1
        rw [hm] at h1
        cases h1
        obtain ⟨v, h4, h5⟩ := h3.get hd
        exact ⟨a, C, dx, vs, v, rfl, g1.fh _ _ h2, cl, na, h4, q F1 v H1 g1 h5⟩
      · cases hd
    · cases hd
def fldS (i : Nat) (c f : Str) (δv : DE) : DS := fun ρ => match δv ρ with
  | some d => match ρ[i]? with
    | some (.oo x dx c' fs) => if c' = c ∧ fs.length < 1000 then some (.nx (ρ.set i (.oo x dx c (putD f d fs)))) else none
    | _ => none
  | none => none
theorem pds_fld {i : Nat} {x : Str} {px : Pos} (hm : X.mg c = some (.ref C)) (cl : Cls X.K C) (na : NoAttr X.K C f) (hN : X.N[i]? = some x) (hv : Vis X.env.scope x) (he : PDE X value δv) (hd : (x == ("__debug__" : Str)) = false := by decide) (hcd : (x == ("__classdict__" : Str)) = false := by decide)
    (hs : swapsWith value (some (.Attribute (.Name x px) f pos')) pos.line X.env = pure false := by rfl) : PDS X (.Assign [.Attribute (.Name x px) f pos'] value pos) (fldS i c f δv) := (ps_fld (pe_var hN hv hd hcd) he hs).imp fun E σ H ⟨F0, H0, ρ, F, fl, S, e, q⟩ => by
  unfold fldS at e
  split at e
  · rename_i d e1
    split at e
    · rename_i a dx c' fs e2
      split at e
      · rename_i hl
        cases e
        obtain ⟨rfl, hl⟩ := hl
        refine ⟨F0, H0, ρ, F, d, S, e1, fun F1 v H1 g1 r1 => ?_⟩
        have S1 := S.gr g1
        obtain ⟨C', vs, h1, h0, h2, h3, h4, h5⟩ := S1.at_ i _ e2
        rw [hm] at h0
        cases h0
        refine ⟨.ref a, h1, a, C, dx, vs, rfl, h4, cl, na, by rw [h5.len]; exact hl, ?_⟩
        exact q F1 σ _ g1.ff (S1.write e2 h1 ⟨C, _, h1, hm, h2, h3, upd_same, putD_rep r1 h5⟩ fun b o => .inl o)
      · cases e
    · cases e
  · cases e
end
def tyN : D → Option String
  | .non => some "NoneType"
  | .bl _ => some "bool"
  | .int _ => some "int"
  | .str _ => some "str"
  | .lst _ => some "list"
  | .tup _ => some "tuple"
  | _ => none
def isTy (n T : String) : Bool := n == T || (n == "bool" && T == "int")
def dIs (T : String) (d : D) : Option D := match tyN d with
  | some n => some (.bl (isTy n T))
  | none => none
def isD (T : String) : DE → DE := un1 (dIs T)
theorem ty_of {K : PySem.W.Frag} {mg : Mg} {F H : Hp} {d : D} {v : V} {n : String} (fh : Same F H) (r : RepV K mg F H d v) (h : tyN d = some n) : TyX K H v (.type n) := by
  cases d with
  | non => cases h; rw [r.non]; exact .base .non
  | bl b => cases h; rw [r.bl]; exact .base (.bl b)
  | int i => cases h; rw [r.int]; exact .base (.int i)
  | str x => cases h; rw [r.str]; exact .base (.str x)
  | lst ds =>
    cases h
    obtain ⟨a, vs, rfl, h1, _⟩ := r.lst
    exact .base (.lst h1)
  | tup ds =>
    cases h
    obtain ⟨a, vs, rfl, h1, _⟩ := r.tup
    rcases h1 with (h1 | ⟨o, h1⟩) | ⟨o, its, n, h1, h2, _⟩
    · exact .base (.tup (fh _ _ h1))
    · exact .fTuple (fh _ _ h1)
    · exact .kTuple h1 h2
  | scr ns => cases h
  | ob c fs => cases h
theorem kit_all {T n : String} (hT : T = "int" ∨ T = "bool" ∨ T = "str" ∨ T = "list" ∨ T = "tuple") (hn : n = "NoneType" ∨ n = "bool" ∨ n = "int" ∨ n = "str" ∨ n = "list" ∨ n = "tuple") : kitB n T = some (isTy n T) := by
  rcases hT with rfl | rfl | rfl | rfl | rfl <;> rcases hn with rfl | rfl | rfl | rfl | rfl | rfl <;> decide +kernel
theorem tyN_in {d : D} {n : String} (h : tyN d = some n) : n = "NoneType" ∨ n = "bool" ∨ n = "int" ∨ n = "str" ∨ n = "list" ∨ n = "tuple" := by
  cases d <;> cases h <;> simp
section
variable {X : Cx} {pos : Pos} {a : Expr} {δ : DE}
theorem pde_isT {p q : Pos} {T : Str} {t : String} (hT : t = "int" ∨ t = "bool" ∨ t = "str" ∨ t = "list" ∨ t = "tuple") (hg : Gl X "isinstance") (hm : X.mg "isinstance" = none) (hg2 : Gl X T) (hm2 : X.mg T = none) (hv2 : bootBuiltins T = some (.type t)) (ha : PDV X a δ)
    (hn2 : T ≠ "__name__" := by decide) (hd2 : (T == ("__debug__" : Str)) = false := by decide)
    (he1 : starEach [.Name T q] X.env = (false, eval (.Name T q) X.env) :: starEach [] X.env := by rfl) (he : starEach [a, .Name T q] X.env = (false, eval a X.env) :: starEach [.Name T q] X.env := by rfl) (hpl : (backTo pos (starEach [.Name T q] X.env)).any (·.1) = false := by rfl) : PDE X (.Call (.Name "isinstance" p) [a, .Name T q] [] pos) (isD t δ) :=
  (pe_callB call_isi hg hm (by decide +kernel) (pa_cons ha (pa_cons (pe_bltn (v := .ty t) hg2 hm2 hv2 rfl hn2 hd2) pa_nil he1) he) (by decide) (by decide) he hpl).imp fun σ H Q ⟨F0, H0, ρ, F, z, S, hd, q⟩ => by
    unfold isD un1 at hd
    split at hd
    · rename_i d e1
      unfold dIs at hd
      split at hd
      · rename_i n hn
        cases hd
        refine ⟨F0, H0, ρ, F, d, S, e1, fun F1 v H1 g1 r1 => ?_⟩
        exact ⟨v, .ty t, .type n, .type t, isTy n t, rfl, .ty t, ty_of g1.fh r1 hn, kit_ty (kit_all hT (tyN_in hn)), q F1 _ H1 g1 rfl⟩
      · cases hd
    · cases hd
end
def spD (K : PySem.W.Frag) (mg : Mg) (n : Nat) (f : List D → Option D) : Sp := fun vs H Q _ => vs.length = n ∧ ∃ F ds d, Same F H ∧ RepL K mg F ds vs ∧ f ds = some d ∧ ∀ F' v H', Gr F H F' H' → Rep K mg F' d v → Q v H'
def startD (n : Nat) (ds : List D) : Env := ds.map .sh ++ List.replicate (n - ds.length) .no
def fnD (n : Nat) (δ : DS) : List D → Option D := fun ds => match δ (startD n ds) with
  | some (.rt d) => some d
  | some (.nx _) => some .non
  | _ => none
theorem start_sr {K : PySem.W.Frag} {mg : Mg} {F H : Hp} {N : List Str} {ds : List D} {vs : List V} (fh : Same F H) (r : RepL K mg F ds vs) : SR K mg F H (startD N.length ds) F (L2.start N vs) H := by
  have hl := r.len
  refine ⟨by unfold startD L2.start; rw [List.length_append, List.length_append, List.length_map, List.length_map, List.length_replicate, List.length_replicate, hl], Same.refl _, fh, Same.refl _, fun a o e => .inr e, fun i lv e => ?_, fun i j lv lw a e1 _ o1 _ => ?_⟩
  · unfold startD at e
    unfold L2.start
    by_cases hi : i < ds.length
    · rw [List.getElem?_append_left (by rw [List.length_map]; exact hi), List.getElem?_map] at e
      rw [List.getElem?_append_left (by rw [List.length_map, hl]; exact hi), List.getElem?_map]
      rw [List.getElem?_eq_getElem hi] at e
      cases e
      obtain ⟨v, h1, h2⟩ := r.get (List.getElem?_eq_getElem hi)
      rw [h1]
      exact ⟨v, rfl, h2⟩
    · rw [List.getElem?_append_right (by rw [List.length_map]; omega)] at e
      have := List.mem_replicate.mp (List.mem_of_getElem? e)
      rw [this.2]
      exact True.intro
  · unfold startD at e1
    rcases List.mem_append.mp (List.mem_of_getElem? e1) with h | h
    · obtain ⟨d, _, rfl⟩ := List.mem_map.mp h
      cases o1
    · have := List.mem_replicate.mp h
      rw [this.2] at o1
      cases o1
theorem body_of {K : PySem.W.Frag} {mg : Mg} {X : Cx} {st : List Stmt} {N : List Str} {n : Nat} {δ : DS} {vs : List V} {H : Hp} {Q : VK} {E : XK} (hK : X.K = K) (hmg : X.mg = mg) (h : PDSs X st δ) (p : spD K mg n (fnD N.length δ) vs H Q E) :
    ∃ t, PSs X st t ∧ t { nx := fun _ H' => Q .non H', rt := Q } (L2.start N vs) H := by
  subst hK hmg
  obtain ⟨_, F, ds, d, fh, r, e, q⟩ := p
  refine ⟨_, h, ?_⟩
  have S := start_sr (N := N) fh r
  have nw : ∀ {ρ F' σ H'}, SR X.K X.mg F H ρ F' σ H' → ∀ a, H a ≠ none → F a = none → F' a = none := fun {ρ F' σ H'} S' a h1 h2 => by
    cases e' : F' a with
    | none => rfl
    | some o =>
      rcases S'.nw _ o e' with z | z
      · exact absurd z h1
      · rw [h2] at z; cases z
  unfold fnD at e
  split at e
  · rename_i d' e1
    cases e
    exact ⟨F, H, _, F, _, S, e1, fun F' v ρ σ H' s S' r' => q F' v H' ⟨s, S'.h0, S'.fh, nw S'⟩ r'⟩
  · rename_i ρ' e1
    cases e
    exact ⟨F, H, _, F, _, S, e1, fun F' σ H' s S' => q F' .non H' ⟨s, S'.h0, S'.fh, nw S'⟩ rfl⟩
  · cases e
section
variable {P : Program} {w : World} {K : PySem.W.Frag} {mg : Mg} {base : Hp}
theorem fn_ok {base : Heap} {x qual : Str} {st : Stmt} {f : Addr} {fd : FuncData} {N ps : List Str} {k : Nat} {δ : DS} (F : Fun K x qual st f fd) (S : FnScope N ps (defScope st))
    (h : ∀ (cdv : Value) (A : Around) (outer : List PySem.Env) (s : Shared) (H : Hp) (E : XK), Room k (A.deeper (PyProof.Rows.envOfC qual (defScope st) s.heap.objs.size f cdv)) → PDSs (cxOf CX0 P w K mg base N qual (defScope st) f cdv A outer s H E).nox (defBody st) δ) :
    FnOk P w K mg base CX0 (k + 1) f fd ps (spD K mg ps.length (fnD N.length δ)) :=
  F.ok S (fun _ _ _ _ q => q.1) fun cdv A outer s H vs Q E hr p => body_of (K := K) (mg := mg) rfl rfl (h cdv A outer s H E hr) p
theorem fn_okD {base : Heap} {x qual : Str} {params : Arguments} {body : List Stmt} {scope : Scope} {dvs : List V} {kws : List (Str × V)} {f : Addr} {fd : FuncData} {N ps : List Str} {k : Nat} {δ : DS} (F : FunD K x qual params body scope dvs kws f fd) (S : FnScope N ps scope)
    (h : ∀ (cdv : Value) (A : Around) (outer : List PySem.Env) (s : Shared) (H : Hp) (E : XK), Room k (A.deeper (PyProof.Rows.envOfC qual scope s.heap.objs.size f cdv)) → PDSs (cxOf CX0 P w K mg base N qual scope f cdv A outer s H E).nox body δ) :
    FnOk P w K mg base CX0 (k + 1) f fd ps (spD K mg ps.length (fnD N.length δ)) :=
  F.ok S (fun _ _ _ _ q => q.1) fun cdv A outer s H vs Q E hr p => by
    obtain ⟨t, h1, h2⟩ := body_of (K := K) (mg := mg) rfl rfl (h cdv A outer s H E hr) p
    exact ⟨t, h1.nox, h2⟩
end
section
variable {X : Cx} {pos : Pos} {e : Expr} {es : List Expr} {δs : DA} {k : Nat} {f : Addr} {fd : FuncData} {ps : List Str} {g : List D → Option D} {x : Str} {p : Pos}
theorem callD_of {K : PySem.W.Frag} {mg : Mg} {n : Nat} {dvs : List V} {dds : List D} (hdv : ∀ F, RepL K mg F dds dvs) (hn : ∀ ρ ds, δs ρ = some ds → ds.length + dds.length = n) (σ : St) (H : Hp) (Q : VK) (h : cE K mg (call1 (fun ds => g (ds ++ dds)) δs) σ H Q) :
    tCall (spD K mg n g) dvs E0 (cA K mg δs) σ H Q := by
  obtain ⟨F0, H0, ρ, F, z, S, hd, q⟩ := h
  unfold call1 at hd
  split at hd
  · rename_i ds e1
    refine ⟨F0, H0, ρ, F, ds, S, e1, fun F1 vs H1 g1 r1 => ⟨?_, F1, ds ++ dds, z, g1.fh, r1.app (hdv F1), hd, fun F2 v H2 g2 r2 => q F2 v H2 (g1.trans g2) r2⟩⟩
    rw [List.length_append, r1.len, (hdv F1).len]
    exact hn ρ ds e1
  · cases hd
theorem consA_len {δ : DE} {ε : DA} {n : Nat} (h : ∀ ρ ds, ε ρ = some ds → ds.length = n) : ∀ ρ ds, consA δ ε ρ = some ds → ds.length = n + 1 := fun ρ ds e => by
  unfold consA at e
  split at e
  · split at e
    · rename_i r e1
      cases e
      rw [List.length_cons, h ρ r e1]
    · cases e
  · cases e
theorem nilA_len : ∀ ρ ds, nilA ρ = some ds → ds.length = 0 := fun ρ ds e => by cases e; rfl
theorem pde_call (G : FnOk X.prog X.w X.K X.mg X.base CX0 k f fd ps (spD X.K X.mg ps.length g)) (hr : Room k X.A) (hg : Gl X x) (hm : X.mg x = some (.ref f)) (hk : PySem.W.keepIn X.K (.ref f) = true) (hb : Binds X.K fd ps [])
    (hl : ∀ ρ ds, δs ρ = some ds → ds.length = ps.length) (ha : PDA X (e :: es) δs) (hdb : (x == ("__debug__" : Str)) = false := by decide) (he : starEach (e :: es) X.env = (false, eval e X.env) :: starEach es X.env := by rfl) (hpl : (backTo pos (starEach es X.env)).any (·.1) = false := by rfl) :
    PDE X (.Call (.Name x p) (e :: es) [] pos) (call1 g δs) := (pe_call G hr hg hm hk hb .nil pass0 ha hdb he hpl).imp fun σ H Q h =>
  callD_of (dds := []) (fun _ => rfl) (fun ρ ds e => by rw [List.length_nil]; exact hl ρ ds e) σ H Q (by
    have ee : (fun ds => g (ds ++ [])) = g := by funext ds; rw [List.append_nil]
    rw [ee]
    exact h)
theorem pde_call0 (G : FnOk X.prog X.w X.K X.mg X.base CX0 k f fd [] (spD X.K X.mg 0 g)) (hr : Room k X.A) (hg : Gl X x) (hm : X.mg x = some (.ref f)) (hk : PySem.W.keepIn X.K (.ref f) = true) (hb : Binds X.K fd [] []) (hdb : (x == ("__debug__" : Str)) = false := by decide) :
    PDE X (.Call (.Name x p) [] [] pos) (call1 g nilA) := (pe_call0 G hr hg hm hk hb .nil pass0 hdb).imp fun σ H Q ⟨F0, H0, ρ, F, z, S, hd, q⟩ => by
  refine ⟨rfl, F, [], z, S.fh, rfl, hd, fun F2 v H2 g2 r2 => q F2 v H2 g2 r2⟩
theorem pde_callDf {dvs : List V} {ds : List Value} {dds : List D} (G : FnOk X.prog X.w X.K X.mg X.base CX0 k f fd ps (spD X.K X.mg ps.length g)) (hr : Room k X.A) (hg : Gl X x) (hm : X.mg x = some (.ref f)) (hk : PySem.W.keepIn X.K (.ref f) = true) (hv : Vals dvs ds) (hb : Binds X.K fd ps ds)
    (hdv : ∀ F, RepL X.K X.mg F dds dvs) (hl : ∀ ρ ds, δs ρ = some ds → ds.length + dds.length = ps.length) (ha : PDA X (e :: es) δs) (hdb : (x == ("__debug__" : Str)) = false := by decide) (he : starEach (e :: es) X.env = (false, eval e X.env) :: starEach es X.env := by rfl) (hpl : (backTo pos (starEach es X.env)).any (·.1) = false := by rfl) :
    PDE X (.Call (.Name x p) (e :: es) [] pos) (call1 (fun ds => g (ds ++ dds)) δs) := (pe_call G hr hg hm hk hb hv pass0 ha hdb he hpl).imp (callD_of hdv hl)
end
end DL
namespace DL
open PySem L2
abbrev addE : DE → DE → DE := op2 dAdd
abbrev subE : DE → DE → DE := op2 (iI fun i j => i - j)
abbrev mulE : DE → DE → DE := op2 dMul
abbrev modE : DE → DE → DE := op2 dMod
abbrev divE : DE → DE → DE := op2 dDiv
abbrev powE : DE → DE → DE := op2 dPow
abbrev negE : DE → DE := un1 dNeg
abbrev ltE : DE → DE → DE := op2 (iB fun i j => decide (i < j))
abbrev leE : DE → DE → DE := op2 (iB fun i j => decide (i ≤ j))
abbrev gtE : DE → DE → DE := op2 (iB fun i j => decide (j < i))
abbrev geE : DE → DE → DE := op2 (iB fun i j => decide (j ≤ i))
abbrev eqE : DE → DE → DE := op2 dEqD
abbrev neE : DE → DE → DE := op2 dNeD
abbrev isE : DE → DE → DE := op2 dIsN
abbrev isntE : DE → DE → DE := op2 dNotN
abbrev ixE : DE → DE → DE := op2 dIx
abbrev catO : DE → DE → DA := op2O dCatO
abbrev repO : DE → DE → DA := op2O dRepO
abbrev FUEL : Nat := 1000000000
def cK := cA
abbrev PDK (X : Cx) (kws : List Keyword) (δ : DA) : Prop := PK X kws (cA X.K X.mg δ)
theorem _root_.L2.PK.imp {X : Cx} {kws : List Keyword} {t t' : TA} (h : PK X kws t) (i : ∀ σ H Q, t' σ H Q → t σ H Q) : PK X kws t' := ⟨fun pos pins s σ H Q I q => h.run pos pins s σ H Q I (i σ H Q q)⟩
section
variable {X : Cx} {pos kpos : Pos} {e : Expr} {es : List Expr} {kws : List Keyword} {δ : DE} {δs εs : DA} {nm : Option Str}
theorem pdk_nil : PDK X [] nilA := pk_nil.imp fun σ H Q ⟨F0, H0, ρ, F, d, S, hd, q⟩ => by
  cases hd
  exact q F [] H S.r rfl
theorem pdk_cons (ha : PDE X e δ) (hr : PDK X kws εs) : PDK X (⟨nm, e, kpos⟩ :: kws) (consA δ εs) := (pk_cons ha hr).imp fun σ H Q ⟨F0, H0, ρ, F, z, S, hd, q⟩ => by
  unfold consA at hd
  split at hd
  · rename_i d e1
    split at hd
    · rename_i ds e2
      cases hd
      refine ⟨F0, H0, ρ, F, d, S, e1, fun F1 v H1 g1 r1 => ⟨F0, H0, ρ, F1, ds, S.gr g1, e2, fun F2 vs H2 g2 r2 => ?_⟩⟩
      exact q F2 _ H2 (g1.trans g2) ⟨v, vs, rfl, r1.mono g2.ff, r2⟩
    · cases hd
  · cases hd
def callK (g : List D → Option D) (δ ε : DA) : DE := fun ρ => match δ ρ with
  | some ds => match ε ρ with
    | some es => g (ds ++ es)
    | none => none
  | none => none
variable {k n : Nat} {f : Addr} {fd : FuncData} {ps ks : List Str} {g : List D → Option D} {x : Str} {p : Pos}
theorem pde_callK (G : FnOk X.prog X.w X.K X.mg X.base CX0 k f fd ps (spD X.K X.mg ps.length g)) (hr : Room k X.A) (hg : Gl X x) (hm : X.mg x = some (.ref f)) (hk : PySem.W.keepIn X.K (.ref f) = true) (hb : KBn X.K fd ps n ks (fun us ws => us ++ ws) (fun us ws => us ++ ws))
    (hl : ∀ ρ ds, δs ρ = some ds → ds.length = n) (hl2 : ∀ ρ ds, εs ρ = some ds → ds.length = ks.length) (ha : PDA X (e :: es) δs) (hkw : PDK X kws εs) (hn : n + ks.length = ps.length := by rfl)
    (hall : (backToKw pos (keywordEach kws X.env)).all (·.1.isSome) = true := by rfl) (hks : (backToKw pos (keywordEach kws X.env)).filterMap (·.1) = ks := by rfl)
    (hdb : (x == ("__debug__" : Str)) = false := by decide) (he : starEach (e :: es) X.env = (false, eval e X.env) :: starEach es X.env := by rfl)
    (hpl : ((backTo pos (starEach (e :: es) X.env)).any (·.1) || (backToKw pos (keywordEach kws X.env)).any (·.1.isNone)) = false := by rfl) :
    PDE X (.Call (.Name x p) (e :: es) kws pos) (callK g δs εs) := (pe_callN G hr hg hm hk hb pass0 ha hkw hall hks hdb he hpl).imp fun σ H Q ⟨F0, H0, ρ, F, z, S, hd, q⟩ => by
  unfold callK at hd
  split at hd
  · rename_i ds e1
    split at hd
    · rename_i es' e2
      refine ⟨F0, H0, ρ, F, ds, S, e1, fun F1 vs H1 g1 r1 => ⟨F0, H0, ρ, F1, es', S.gr g1, e2, fun F2 ws H2 g2 r2 => ⟨?_, ?_, ?_⟩⟩⟩
      · rw [r1.len]; exact hl ρ ds e1
      · rw [r2.len]; exact hl2 ρ es' e2
      · refine ⟨?_, F2, ds ++ es', z, g2.fh, (r1.mono g2.ff).app r2, hd, fun F3 v H3 g3 r3 => q F3 v H3 ((g1.trans g2).trans g3) r3⟩
        rw [List.length_append, r1.len, r2.len, hl ρ ds e1, hl2 ρ es' e2]
        exact hn
    · cases hd
  · cases hd
end
section
variable {prog : Program} {w : World} {A : Around} {E : Value → Shared → Prop} {s : Shared} {l : Addr} {its : List Value} {ns : List Int} {Q : Value → Shared → Prop}
theorem sum_tup_raw (hh : A.handled = none) (hl : s.heap.IsTuple l its.toArray) (hi : PyProof.Rows.IntsAre its ns)
    (h : ∀ h' tk t', (∀ b o, s.heap.get? b = some o → h'.get? b = some o) → Q (.int ns.sum t') { s with heap := h', toks := tk }) : wpAny (model prog w) A (call (.builtin "sum") [.ref l]) Q E s := by
  obtain ⟨xs, e⟩ := hi.allInts.items
  have hn : numsOf (intItems xs).toList = ns := by rw [← e]; exact hi.numsOf
  rw [nums_intItems] at hn
  rw [e] at hl
  have hlt : l < s.heap.objs.size := by obtain ⟨_, e, _⟩ := hl; exact Heap.lt_size e
  refine call_sum_walkG (wpAny_pyIter_tuple hl ?_)
  refine ⟨s.heap.objs.size, [s.heap.objs.size, l], [s.heap.objs.size], _, _, _, numAt xs, rfl, Walks.tuple (A := A.in1) hh _ l (Nat.ne_of_lt hlt) (intItems xs), ⟨⟨_, Heap.get?_push_size _ rfl, rfl, rfl⟩, hl.push _⟩, fun b hb => ?_, (fun _ _ => intItems_at), fun h' tk t' hk => ?_⟩
  · show b < (s.heap.push _).objs.size
    rw [Heap.size_push]
    rcases List.mem_cons.mp hb with rfl | hb
    · exact Nat.lt_succ_self _
    · rcases List.mem_cons.mp hb with rfl | hb
      · exact Nat.lt_succ_of_lt hlt
      · cases hb
  · have := h h' tk t' fun b o hb => hk b o (fun z => by
      have z' : b = s.heap.objs.size := by simpa using z
      rw [z'] at hb
      exact absurd (Heap.lt_size hb) (Nat.lt_irrefl _)) (Heap.get?_push_of_some _ hb)
    have e2 : preSum (numAt xs) (intItems xs).size = ns.sum := by
      rw [show (intItems xs).size = xs.size by simp [intItems], preSum_eq, List.take_of_length_le (by simp), hn]
    rw [e2]
    exact this
end
theorem cr_sumT {X : Cx} (hc : X.calm = true) : CallR X (.builtin "sum") (fun vs H Q => ∃ (a : Addr) (ns : List Int), vs = [V.ref a] ∧ SqT X.K H a (ns.map V.int) ∧ Q (.int ns.sum) H) := by
  intro pins s σ H xs us Q I r h
  obtain ⟨a, ns, rfl, hS, q⟩ := h
  cases r.ref1
  obtain ⟨its, rv, ht, _⟩ := I.tuple hS
  exact sum_tup_raw (I.ok.hd hc) (show s.heap.IsTuple a its.toArray from ht) rv.ints fun h' tk t' hk => ⟨.int _, H, I.kept hk, ⟨_, rfl⟩, q⟩
def dSumA : List D → Option D
  | [.lst ds] => match intsD ds with
    | some ns => some (.int ns.sum)
    | none => none
  | [.tup ds] => match intsD ds with
    | some ns => some (.int ns.sum)
    | none => none
  | _ => none
theorem pde_sumA {X : Cx} {e : Expr} {δs : DA} {pos p : Pos} (hc : X.calm = true) (hg : Gl X "sum") (hm : X.mg "sum" = none) (ha : PDR X [e] δs)
    (he : starEach [e] X.env = (false, eval e X.env) :: starEach [] X.env := by rfl) (hpl : (backTo pos (starEach [] X.env)).any (·.1) = false := by rfl) : PDE X (.Call (.Name "sum" p) [e] [] pos) (call1 dSumA δs) :=
  pde_callB (CallR.or (cr_sum hc) (cr_sumT hc)) (fun F H xs ds z Q fh r h q => by
    unfold dSumA at h
    split at h
    · split at h
      · rename_i ns hn
        cases h
        obtain ⟨v, rfl, r1⟩ := r.one
        have hm := intsD_map hn
        subst hm
        obtain ⟨a, vs, rfl, h1, h2⟩ := r1.lst
        rw [h2.ints] at h1
        exact .inl ⟨a, ns, rfl, SqL.of h1, q F _ H (Gr.refl fh) rfl⟩
      · cases h
    · split at h
      · rename_i ns hn
        cases h
        obtain ⟨v, rfl, r1⟩ := r.one
        have hm := intsD_map hn
        subst hm
        obtain ⟨a, vs, rfl, h1, h2⟩ := r1.tup
        rw [h2.ints] at h1
        exact .inr ⟨a, ns, rfl, seqT_mono fh h1, q F _ H (Gr.refl fh) rfl⟩
      · cases h
    · cases h) hg hm (by decide +kernel) ha (by decide) (by decide) he hpl
end DL
namespace DL
open PySem L2
def cB (K : PySem.W.Frag) (mg : Mg) (δ : DE) : TE := fun σ H Q => ∃ F0 H0 ρ F d, SR K mg F0 H0 ρ F σ H ∧ δ ρ = some d ∧ ∀ F' v H', Gr F H F' H' → Rep K mg H' d v → Q v H'
def cBs (K : PySem.W.Frag) (mg : Mg) (δ : DA) : TA := fun σ H Q => ∃ F0 H0 ρ F ds, SR K mg F0 H0 ρ F σ H ∧ δ ρ = some ds ∧ ∀ F' vs H', Gr F H F' H' → RepL K mg H' ds vs → Q vs H'
abbrev PDB (X : Cx) (e : Expr) (δ : DE) : Prop := PE X e (cB X.K X.mg δ)
abbrev PDBs (X : Cx) (es : List Expr) (δ : DA) : Prop := PA X es (cBs X.K X.mg δ)
theorem RepV.all {K : PySem.W.Frag} {mg : Mg} {F H : Hp} {d : D} {v : V} (fh : Same F H) (h : RepV K mg F H d v) : Rep K mg H d v := by
  cases d with
  | lst ds =>
    obtain ⟨a, vs, h1, h2, h3⟩ := h
    exact ⟨a, vs, h1, h2, h3.mono fh⟩
  | non => exact h
  | bl b => exact h
  | int i => exact h
  | str x => exact h
  | tup ds => exact Rep.mono (d := .tup ds) fh h
  | scr ns => exact Rep.mono (mg := mg) (d := .scr ns) fh h
  | ob c fs => exact Rep.mono (d := .ob c fs) fh h
section
variable {X : Cx} {e : Expr} {es : List Expr} {pos : Pos} {δ : DE} {δs : DA}
theorem pdb (h : PDV X e δ) : PDB X e δ := h.imp fun σ H Q ⟨F0, H0, ρ, F, d, S, hd, q⟩ => ⟨F0, H0, ρ, F, d, S, hd, fun F' v H' g r => q F' v H' g (r.all g.fh)⟩
def bE (i : Nat) : DE := fun ρ => match ρ[i]? with
  | some (.sh d) => some d
  | some (.bw d) => some d
  | some (.ow ds) => some (.lst ds)
  | some (.nw dss) => some (.lst (dss.map .lst))
  | _ => none
theorem RepN.all {K : PySem.W.Frag} {mg : Mg} {H0 F H : Hp} (ff : Same F H) {dss : List (List D)} {bs : List Addr} (h : RepN K mg H0 F H dss bs) : RepL K mg H (dss.map .lst) (bs.map V.ref) := h.rep ff fun _ _ => rfl
theorem pdb_var {x : Str} (i : Nat) (hN : X.N[i]? = some x := by rfl) (hv : Vis X.env.scope x := by first | exact Or.inl rfl | exact Or.inr (Or.inl rfl) | exact Or.inr (Or.inr rfl)) (hd : (x == ("__debug__" : Str)) = false := by decide)
    (hcd : (x == ("__classdict__" : Str)) = false := by decide) : PDB X (.Name x pos) (bE i) := (pe_var hN hv hd hcd).imp fun σ H Q ⟨F0, H0, ρ, F, d, S, hd, q⟩ => by
  unfold bE at hd
  split at hd
  · rename_i d' e
    cases hd
    obtain ⟨v, h1, h2⟩ := S.at_ i _ e
    exact ⟨v, h1, q F v H S.r (h2.mono S.fh)⟩
  · rename_i d' e
    cases hd
    obtain ⟨v, h1, h2⟩ := S.at_ i _ e
    exact ⟨v, h1, q F v H S.r (h2.mono S.h0)⟩
  · rename_i ds e
    cases hd
    obtain ⟨a, vs, h1, h2, h3, h4, h5⟩ := S.at_ i _ e
    exact ⟨_, h1, q F _ H S.r ⟨a, vs, rfl, h4, h5.mono S.fh⟩⟩
  · rename_i dss e
    cases hd
    obtain ⟨a, bs, h1, h2, h3, h4, h5, h6, h7⟩ := S.at_ i _ e
    exact ⟨_, h1, q F _ H S.r ⟨a, _, rfl, h4, h7.all S.fh⟩⟩
  · cases hd
theorem pdbs_nil : PDBs X [] nilA := pa_nil.imp fun σ H Q ⟨F0, H0, ρ, F, d, S, hd, q⟩ => by
  cases hd
  exact q F [] H S.r rfl
theorem pdbs_cons {εs : DA} (ha : PDB X e δ) (hr : PDBs X es εs) (hs : starEach (e :: es) X.env = (false, eval e X.env) :: starEach es X.env := by rfl) : PDBs X (e :: es) (consA δ εs) := (pa_cons ha hr hs).imp fun σ H Q ⟨F0, H0, ρ, F, z, S, hd, q⟩ => by
  unfold consA at hd
  split at hd
  · rename_i d e1
    split at hd
    · rename_i ds e2
      cases hd
      refine ⟨F0, H0, ρ, F, d, S, e1, fun F1 v H1 g1 r1 => ⟨F0, H0, ρ, F1, ds, S.gr g1, e2, fun F2 vs H2 g2 r2 => ?_⟩⟩
      exact q F2 _ H2 (g1.trans g2) ⟨v, vs, rfl, r1.mono g2.hh, r2⟩
    · cases hd
  · cases hd
end
def spI (K : PySem.W.Frag) (mg : Mg) (c : Str) (C : Addr) (n : Nat) (g : Addr → Addr → List D → Option (List (Str × D))) : Sp := fun vs H Q _ => vs.length = n ∧ ∃ F H1 x dx ds fs ws, vs = .ref x :: ws ∧ Same F H1 ∧ Same H1 H ∧ H1 x = none ∧ H x = some (.ins C dx []) ∧ mg c = some (.ref C) ∧ RepL K mg H1 ds ws ∧ g x dx ds = some fs ∧
  ∀ F' H' vs', Same F F' → Same F' H' → (∀ b o, H b = some o → b ≠ x → H' b = some o) → (∀ a, H a ≠ none → F a = none → F' a = none) → H' x = some (.ins C dx vs') → RepF K mg F' fs vs' → Q .non H'
def bwD : D → LV
  | .non => .sh .non
  | .bl b => .sh (.bl b)
  | .int i => .sh (.int i)
  | .str x => .sh (.str x)
  | d => .bw d
def startI (c : Str) (n : Nat) (x dx : Addr) (ds : List D) : Env := .oo x dx c [] :: (ds.map bwD ++ List.replicate (n - (ds.length + 1)) .no)
def initD (c : Str) (n : Nat) (δ : DS) : Addr → Addr → List D → Option (List (Str × D)) := fun x dx ds => match δ (startI c n x dx ds) with
  | some (.nx ρ) => match (ρ : List LV)[0]? with
    | some (LV.oo x' dx' c' fs) => if x' = x ∧ dx' = dx ∧ c' = c then some fs else none
    | _ => none
  | _ => none
theorem bwD_ok {K : PySem.W.Frag} {mg : Mg} {H0 F H : Hp} {d : D} {v : V} (r : Rep K mg H0 d v) : SlotOk K mg H0 F H (bwD d) (some (some v)) ∧ ∀ b, ¬ Own H (bwD d) (some (some v)) b := by
  cases d with
  | non => exact ⟨⟨v, rfl, r⟩, fun _ o => o⟩
  | bl b => exact ⟨⟨v, rfl, r⟩, fun _ o => o⟩
  | int i => exact ⟨⟨v, rfl, r⟩, fun _ o => o⟩
  | str x => exact ⟨⟨v, rfl, r⟩, fun _ o => o⟩
  | lst ds => exact ⟨⟨v, rfl, r⟩, fun _ o => o⟩
  | tup ds => exact ⟨⟨v, rfl, r⟩, fun _ o => o⟩
  | scr ns => exact ⟨⟨v, rfl, r⟩, fun _ o => o⟩
  | ob c fs => exact ⟨⟨v, rfl, r⟩, fun _ o => o⟩
def less (H : Hp) (x : Addr) : Hp := fun b => if b = x then none else H b
theorem less_at {H : Hp} {x : Addr} : less H x x = none := if_pos rfl
theorem less_ne {H : Hp} {x b : Addr} (h : b ≠ x) : less H x b = H b := if_neg h
theorem same_less {H H1 : Hp} {x : Addr} (s : Same H1 H) (h : H1 x = none) : Same H1 (less H x) := fun b o e => by
  rw [less_ne (ne_of_none e h)]
  exact s _ _ e
theorem less_same {H : Hp} {x : Addr} : Same (less H x) H := fun b o e => by
  by_cases q : b = x
  · subst q
    rw [less_at] at e
    cases e
  · rw [less_ne q] at e
    exact e
theorem body_init {K : PySem.W.Frag} {mg : Mg} {X : Cx} {st : List Stmt} {N : List Str} {n : Nat} {c : Str} {C : Addr} {δ : DS} {vs : List V} {H : Hp} {Q : VK} {E : XK} (hK : X.K = K) (hmg : X.mg = mg) (h : PDSs X st δ) (p : spI K mg c C n (initD c N.length δ) vs H Q E) :
    ∃ t, PSs X st t ∧ t { nx := fun _ H' => Q .non H', rt := Q } (L2.start N vs) H := by
  subst hK hmg
  obtain ⟨_, F, H1, x, dx, ds, fs, ws, rfl, s1, s2, hx1, hx, hc, r, e, q⟩ := p
  refine ⟨_, h, ?_⟩
  have hl := r.len
  have fx : F x = none := s1.free hx1
  have s3 : Same H1 (less H x) := same_less s2 hx1
  have r3 := r.mono s3
  have S : SR X.K X.mg F (less H x) (startI c N.length x dx ds) F (L2.start N (.ref x :: ws)) H := by
    have one : ∀ (i : Nat) (lv : LV), (ds.map bwD ++ List.replicate (N.length - (ds.length + 1)) .no)[i]? = some lv → SlotOk X.K X.mg (less H x) F H lv (ws.map some ++ List.replicate (N.length - (ds.length + 1)) none)[i]? ∧ ∀ b, ¬ Own H lv (ws.map some ++ List.replicate (N.length - (ds.length + 1)) none)[i]? b := fun i lv e => by
      by_cases hi : i < ds.length
      · rw [List.getElem?_append_left (by rw [List.length_map]; exact hi), List.getElem?_map, List.getElem?_eq_getElem hi] at e
        rw [List.getElem?_append_left (by rw [List.length_map, hl]; exact hi), List.getElem?_map]
        cases e
        obtain ⟨v, h1, h2⟩ := r3.get (List.getElem?_eq_getElem hi)
        rw [h1]
        exact bwD_ok h2
      · rw [List.getElem?_append_right (by rw [List.length_map]; omega)] at e
        have := List.mem_replicate.mp (List.mem_of_getElem? e)
        rw [this.2]
        exact ⟨True.intro, fun _ o => o⟩
    have st : L2.start N (.ref x :: ws) = some (.ref x) :: (ws.map some ++ List.replicate (N.length - (ds.length + 1)) none) := by
      unfold L2.start
      rw [List.length_cons, hl]
      rfl
    rw [st]
    refine ⟨by unfold startI; rw [List.length_cons, List.length_cons, List.length_append, List.length_append, List.length_map, List.length_map, List.length_replicate, List.length_replicate, hl], Same.refl _, s1.trans s2, less_same, fun a o z => .inr z, fun i lv e => ?_, fun i j lv lw b e1 e2 o1 o2 => ?_⟩
    · cases i with
      | zero =>
        cases e
        exact ⟨C, [], rfl, hc, less_at, fx, hx, rfl⟩
      | succ i => exact (one i lv e).1
    · cases i with
      | zero =>
        cases j with
        | zero => rfl
        | succ j => exact absurd o2 ((one j lw e2).2 b)
      | succ i => exact absurd o1 ((one i lv e1).2 b)
  unfold initD at e
  split at e
  · rename_i ρ' e1
    split at e
    · rename_i x' dx' c' fs' e2
      split at e
      · rename_i ec
        cases e
        obtain ⟨rfl, rfl, rfl⟩ := ec
        refine ⟨F, less H x', _, F, _, S, e1, fun F' σ' H' s S' => ?_⟩
        obtain ⟨C', vs', g1, g2, g3, g4, g5, g6⟩ := S'.at_ 0 _ e2
        rw [hc] at g2
        cases g2
        refine q F' H' vs' s S'.fh (fun b o e nb => S'.h0 b o (by rw [less_ne nb]; exact e)) (fun a h1 h2 => ?_) g5 g6
        by_cases qa : a = x'
        · rw [qa]
          exact g4
        · cases e' : F' a with
          | none => rfl
          | some o =>
            rcases S'.nw a o e' with z | z
            · rw [less_ne qa] at z
              exact absurd z h1
            · rw [h2] at z
              cases z
      · cases e
    · cases e
  · cases e
section
variable {P : Program} {w : World} {K : PySem.W.Frag} {mg : Mg} {base : Heap}
theorem fn_okI {x qual : Str} {st : Stmt} {f : Addr} {fd : FuncData} {N ps : List Str} {k : Nat} {δ : DS} (c : Str) (C : Addr) (F : Fun K x qual st f fd) (S : FnScope N ps (defScope st))
    (h : ∀ (cdv : Value) (A : Around) (outer : List PySem.Env) (s : Shared) (H : Hp) (E : XK), Room k (A.deeper (PyProof.Rows.envOfC qual (defScope st) s.heap.objs.size f cdv)) → PDSs (cxOf CX0 P w K mg base N qual (defScope st) f cdv A outer s H E).nox (defBody st) δ) :
    FnOk P w K mg base CX0 (k + 1) f fd ps (spI K mg c C ps.length (initD c N.length δ)) :=
  F.ok S (fun _ _ _ _ q => q.1) fun cdv A outer s H vs Q E hr p => body_init (K := K) (mg := mg) rfl rfl (h cdv A outer s H E hr) p
end
def mkE (c : Str) (g : List D → Option (List (Str × D))) (δ : DA) : DE := fun ρ => match δ ρ with
  | some ds => match g ds with
    | some fs => some (.ob c fs)
    | none => none
  | none => none
section
variable {X : Cx} {pos : Pos} {e : Expr} {es : List Expr} {δs : DA} {k : Nat} {f C : Addr} {fd : FuncData} {ps : List Str} {c x : Str} {p : Pos}
theorem pde_make {G : Addr → Addr → List D → Option (List (Str × D))} {g : List D → Option (List (Str × D))} (M : Mk X.K C f) (hG : FnOk X.prog X.w X.K X.mg X.base CX0 k f fd ps (spI X.K X.mg c C ps.length G)) (hr : Room (k + 1) X.A) (hg : Gl X c) (hm : X.mg c = some (.ref C)) (hb : Binds X.K fd ps [])
    (hgg : ∀ x dx ds fs, g ds = some fs → G x dx ds = some fs) (hl : ∀ ρ ds, δs ρ = some ds → ds.length + 1 = ps.length) (ha : PDBs X (e :: es) δs) (hdb : (c == ("__debug__" : Str)) = false := by decide) (he : starEach (e :: es) X.env = (false, eval e X.env) :: starEach es X.env := by rfl) (hpl : (backTo pos (starEach es X.env)).any (·.1) = false := by rfl) :
    PDE X (.Call (.Name c p) (e :: es) [] pos) (mkE c g δs) := (pe_make M hG hr hg hm hb .nil pass0 ha hdb he hpl).imp fun σ H Q ⟨F0, H0, ρ, F, z, S, hd, q⟩ => by
  unfold mkE at hd
  split at hd
  · rename_i ds e1
    split at hd
    · rename_i fs e2
      cases hd
      refine ⟨F0, H0, ρ, F, ds, S, e1, fun F1 vs H1 g1 r1 x dx hx hdx ne => ?_⟩
      rw [List.append_nil]
      have sH : Same H1 (upd (upd H1 dx (.own x)) x (.ins C dx [])) := fun b o e => by
        rw [upd_ne (ne_of_none e hx), upd_ne (ne_of_none e hdx)]
        exact e
      refine ⟨by rw [List.length_cons, r1.len]; exact hl ρ ds e1, F1, H1, x, dx, ds, fs, vs, rfl, g1.fh, sH, hx, upd_same, hm, r1, hgg x dx ds fs e2, fun F2 H2 vs' s2 fh2 keep nw hx2 r2 => ⟨rfl, ?_⟩⟩
      have f2 : F2 x = none := nw x (by rw [upd_same]; exact fun z => nomatch z) (g1.fh.free hx)
      have hh : Same H1 H2 := fun b o e => keep b o (sH b o e) (ne_of_none e hx)
      have g2 : Gr F1 H1 F2 H2 := ⟨s2, hh, fh2, fun a h1 h2 => nw a (fun z => by
        cases q : H1 a with
        | none => exact h1 q
        | some o =>
          rw [sH a o q] at z
          cases z) h2⟩
      exact q _ (.ref x) H2 (g1.trans (g2.know hx f2 hx2)) ⟨x, C, dx, vs', rfl, hm, upd_same, r2.mono (same_new f2)⟩
    · cases hd
  · cases hd
end
def own2E (c : Str) (g : List D → Option D) (δa δb : DE) : DE := fun ρ => match δa ρ with
  | some (.ob c1 fs) => match δb ρ with
    | some (.ob c2 gs) => if c1 = c ∧ c2 = c then g [.ob c1 fs, .ob c2 gs] else none
    | _ => none
  | _ => none
theorem rel_back {v : V} {u : Value} (r : RelV v u) {Q : Value → Shared → Prop} {s : Shared} (h : Q u s) : PySem.W.CmpBack Q u s := by
  cases v with
  | non => cases (show u = _ from r); exact h
  | bl b => cases (show u = _ from r); exact h
  | int i => obtain ⟨t, rfl⟩ := r; exact h
  | str x => obtain ⟨t, rfl⟩ := r; exact h
  | byt b => obtain ⟨t, rfl⟩ := r; exact h
  | flt b => obtain ⟨t, rfl⟩ := r; exact h
  | ref a => cases (show u = _ from r); exact h
  | ty n => cases (show u = _ from r); exact h
theorem pde_own2 {X : Cx} {pos : Pos} {a b : Expr} {δa δb : DE} {op : Operator} {k : Nat} {f C : Addr} {fd : FuncData} {ps : List Str} {c : Str} {g : List D → Option D} (hG : FnOk X.prog X.w X.K X.mg X.base CX0 k f fd ps (spD X.K X.mg 2 g)) (hr : Room k X.A) (hm : X.mg c = some (.ref C)) (hb : Binds X.K fd ps [])
    (hs : PySem.W.findIn X.K (.ref C) (PySem.dunder op.info.2) = some (some (.ref f))) (hf : PySem.W.isFn X.K (.ref f) = true) (hc : PySem.W.selfFirst X.K C = true) (ha : PDE X a δa) (hb2 : PDE X b δb) : PDE X (.BinOp a op b pos) (own2E c g δa δb) := by
  refine (pe_op (r := fun x y H Q => ∃ p q dx dy fs gs, x = .ref p ∧ y = .ref q ∧ H p = some (.ins C dx fs) ∧ H q = some (.ins C dy gs) ∧ spD X.K X.mg 2 g [x, y] H Q E0) (fun pins s σ H x y v u Q I rx ry h => ?_) ha hb2).imp fun σ H Q ⟨F0, H0, ρ, F, z, S, hd, q⟩ => ?_
  · obtain ⟨p, q, dx, dy, fs, gs, rfl, rfl, hp, hq, h⟩ := h
    cases rx
    cases ry
    obtain ⟨m, F⟩ := I.fr
    obtain ⟨mA, O, _⟩ := ins_get I.hok hp
    obtain ⟨od, J, _⟩ := O.look
    obtain ⟨mA', O', _⟩ := ins_get I.hok hq
    obtain ⟨od', J', _⟩ := O'.look
    refine PySem.W.binop_K F I.mod.kin J J'.type hc hs hf ?_
    refine thn (run_fn (Q := Q) (us := [.ref p, .ref q]) (vs := [.ref p, .ref q]) hG hr hb .nil pass0 I (.cons rfl (.cons rfl .nil)) (by rw [List.append_nil]; exact h)) fun u' s' h' => ?_
    obtain ⟨v', H', I', r', q'⟩ := h'
    exact rel_back r' ⟨v', H', I', r', q'⟩
  · unfold own2E at hd
    split at hd
    · rename_i c1 fs e1
      split at hd
      · rename_i c2 gs e2
        split at hd
        · rename_i ec
          obtain ⟨rfl, rfl⟩ := ec
          refine ⟨F0, H0, ρ, F, _, S, e1, fun F1 v H1 g1 r1 => ⟨F0, H0, ρ, F1, _, S.gr g1, e2, fun F2 u H2 g2 r2 => ?_⟩⟩
          have r1' := r1.mono g2.ff
          obtain ⟨p, C1, dx, vs, rfl, h1, h2, h3⟩ := id r1'
          obtain ⟨p2, C2, dy, ws, rfl, h4, h5, h6⟩ := id r2
          rw [hm] at h1 h4
          cases h1
          cases h4
          exact ⟨p, p2, dx, dy, vs, ws, rfl, rfl, g2.fh _ _ h2, g2.fh _ _ h5, rfl, F2, [_, _], z, g2.fh, .cons r1' (.cons r2 .nil), hd, fun F3 v H3 g3 r3 => q F3 v H3 ((g1.trans g2).trans g3) r3⟩
        · cases hd
      · cases hd
    · cases hd
structure ClsI (K : PySem.W.Frag) (C : Addr) : Prop where
  cl : Cls K C
  ha : PySem.W.findIn K (.ref C) "__class__" = some (some (.builtin "object.__class__"))
  hn : PySem.W.specialIn K (.builtin "object.__class__") "__get__" = some (some (.builtin "getset_descriptor.__get__"))
  htk : PySem.W.takesIn K (.builtin "object.__class__") = some true
  hm : PySem.W.mroIn K C (.type "object") = some true
def isOb (c : Str) (δ : DE) : DE := fun ρ => match δ ρ with
  | some (.ob c' _) => if c' = c then some (.bl true) else none
  | _ => none
theorem pde_isC {X : Cx} {pos p q : Pos} {a : Expr} {δ : DE} {c : Str} {C : Addr} (ci : ClsI X.K C) (hg : Gl X "isinstance") (hm : X.mg "isinstance" = none) (hg2 : Gl X c) (hm2 : X.mg c = some (.ref C)) (ha : PDV X a δ) (hd2 : (c == ("__debug__" : Str)) = false := by decide)
    (he1 : starEach [.Name c q] X.env = (false, eval (.Name c q) X.env) :: starEach [] X.env := by rfl) (he : starEach [a, .Name c q] X.env = (false, eval a X.env) :: starEach [.Name c q] X.env := by rfl) (hpl : (backTo pos (starEach [.Name c q] X.env)).any (·.1) = false := by rfl) : PDE X (.Call (.Name "isinstance" p) [a, .Name c q] [] pos) (isOb c δ) :=
  (pe_callB call_isi hg hm (by decide +kernel) (pa_cons ha (pa_cons (pe_glob (v := .ref C) hg2 hm2 rfl hd2) pa_nil he1) he) (by decide) (by decide) he hpl).imp fun σ H Q ⟨F0, H0, ρ, F, z, S, hd, q⟩ => by
    unfold isOb at hd
    split at hd
    · rename_i c' fs e1
      split at hd
      · rename_i ec
        cases hd
        subst ec
        refine ⟨F0, H0, ρ, F, _, S, e1, fun F1 v H1 g1 r1 => ?_⟩
        obtain ⟨p, C1, dx, vs, rfl, h1, h2, h3⟩ := r1.ob
        rw [hm2] at h1
        cases h1
        refine ⟨_, .ref C, .ref C, .ref C, true, rfl, .own C, .base (.ins (g1.fh _ _ h2) ci.cl ci.ha ci.hn ci.htk ci.hm), ?_, q F1 _ H1 g1 rfl⟩
        unfold PySem.W.kitOne
        rw [if_pos (by exact beq_self_eq_true (Value.ref C))]
      · cases hd
    · cases hd
def mapO (f : D → Option D) : List D → Option (List D)
  | [] => some []
  | d :: ds => match f d with
    | some e => match mapO f ds with
      | some es => some (e :: es)
      | none => none
    | none => none
theorem mapO_len {f : D → Option D} : ∀ {ds es : List D}, mapO f ds = some es → es.length = ds.length
  | [], es, h => by cases h; rfl
  | d :: ds, es, h => by
    unfold mapO at h
    split at h
    · split at h
      · rename_i es' e
        cases h
        rw [List.length_cons, List.length_cons, mapO_len e]
      · cases h
    · cases h
theorem mapO_get {f : D → Option D} : ∀ {ds es : List D} {i : Nat} {d : D}, mapO f ds = some es → ds[i]? = some d → ∃ e, es[i]? = some e ∧ f d = some e
  | [], es, i, d, h, g => by simp at g
  | x :: ds, es, i, d, h, g => by
    unfold mapO at h
    split at h
    · rename_i e0 he
      split at h
      · rename_i es' e
        cases h
        cases i with
        | zero =>
          cases g
          exact ⟨e0, rfl, he⟩
        | succ i => exact mapO_get (i := i) e g
      · cases h
    · cases h
def frzD : Nat → D → Option D
  | _, .non => some .non
  | _, .bl b => some (.bl b)
  | _, .int i => some (.int i)
  | _, .str x => some (.str x)
  | n + 1, .lst ds => match mapO (frzD n) ds with
    | some es => if ds.length ≤ sizeLine then some (.tup es) else none
    | none => none
  | n + 1, .tup ds => match mapO (frzD n) ds with
    | some es => if ds.length ≤ sizeLine then some (.tup es) else none
    | none => none
  | _, _ => none
def spFz (K : PySem.W.Frag) (mg : Mg) (n : Nat) : Sp := fun vs H Q _ => vs.length = 1 ∧ ∃ F v d z, vs = [v] ∧ Same F H ∧ Rep K mg H d v ∧ frzD n d = some z ∧ ∀ F' v' H', Gr F H F' H' → Rep K mg F' z v' → Q v' H'
theorem _root_.L2.PI.or {X : Cx} {tg l : Expr} {t u : TI} (h : PI X tg l t) (g : PI X tg l u) : PI X tg l (fun σ H R => t σ H R ∨ u σ H R) := ⟨fun pins s σ H R I q => q.elim (h.run pins s σ H R I) (g.run pins s σ H R I)⟩
end DL
namespace DL
open PySem L2
def lcLN (γ : DG) (δt : DT) (δ : DA) (ρ : Env) : List D → Option (List (List D))
  | [] => some []
  | d :: ds => match γ d ρ with
    | some ρ1 => match δt ρ1 with
      | some true => match δ ρ1 with
        | some y => match lcLN γ δt δ ρ ds with
          | some ys => some (y :: ys)
          | none => none
        | none => none
      | some false => lcLN γ δt δ ρ ds
      | none => none
    | none => none
def setN (i : Nat) (vs : List Nat) (δi : DA) (γ : DG) (δt : DT) (δ : DA) : DS := fun ρ => match δi ρ with
  | some ds => if ds.length ≤ sizeLine ∧ i < ρ.length then (match lcLN γ δt δ (wipeD ρ vs) ds with
    | some dss => some (.nx (ρ.set i (.nw dss)))
    | none => none) else none
  | none => none
theorem lcN_of {K : PySem.W.Frag} {mg : Mg} {i : Nat} {vs is : List Nat} {δi : DA} {γ : DG} {δt : DT} {δ : DA} (hv : ∀ i ∈ is, i ∈ vs) (E : Ends) (σ : St) (H : Hp) (h : cS K mg (setN i vs δi γ δt δ) E σ H) :
    tAsg (tLc (cI K mg δi) (cG K mg γ is) (cT K mg δt) (cO K mg δ) vs) (gName i) E σ H := by
  obtain ⟨F0, H0, ρ, F, fl, S, hd, q⟩ := h
  unfold setN at hd
  split at hd
  · rename_i ds e1
    split at hd
    · rename_i hlen
      obtain ⟨hlen, hi⟩ := hlen
      split at hd
      · rename_i zs ez0
        cases hd
        refine ⟨F0, H0, ρ, F, ds, S, e1, fun F1 J H1 g1 it D hD => ?_⟩
        refine ⟨fun i m H2 => m = ds.length - i ∧ i ≤ ds.length ∧ ∃ F2 bs ys zs', Gr F1 H1 F2 H2 ∧ F2 D = none ∧ H2 D = some (.lst (bs.map V.ref)) ∧ bs.length ≤ i ∧ D ∉ bs ∧ bs.Nodup ∧ RepN K mg H1 F2 H2 ys bs ∧ lcLN γ δt δ (wipeD ρ vs) (ds.drop i) = some zs' ∧ ys ++ zs' = zs,
          ⟨ds.length, rfl, Nat.zero_le _, F1, [], [], zs, Gr.newH g1.fh hD, g1.fh.free hD, upd_same, Nat.le_refl _, by simp, List.nodup_nil, rfl, ez0, rfl⟩, fun i m H2 hW => ?_⟩
        obtain ⟨rfl, hi2, F2, bs, ys, zs', g2, f2, hH2, hal, nD, nd, r2, e2, ez⟩ := hW
        have hw : ∀ {F' H'}, Gr F1 H1 F' H' → Same F1 H' := fun g => g.ff.trans g.fh
        by_cases hlt : i < ds.length
        · refine .inr ⟨it.go i H2 (hw g2) hlt, ?_⟩
          have ed : ds.drop i = ds[i] :: ds.drop (i + 1) := List.drop_eq_getElem_cons hlt
          rw [ed] at e2
          unfold lcLN at e2
          split at e2
          · rename_i ρ1 eg
            refine ⟨fun H3 => ∃ F2 bs ys zs', Gr F1 H1 F2 H3 ∧ F2 D = none ∧ H3 D = some (.lst (bs.map V.ref)) ∧ bs.length ≤ i + 1 ∧ D ∉ bs ∧ bs.Nodup ∧ RepN K mg H1 F2 H3 ys bs ∧ lcLN γ δt δ (wipeD ρ vs) (ds.drop (i + 1)) = some zs' ∧ ys ++ zs' = zs,
              fun H3 w => ⟨ds.length - (i + 1), by omega, rfl, hlt, w⟩, fun x H3 y => ?_⟩
            obtain ⟨F3, g3, r3⟩ := it.yld i H2 x H3 ds[i] (hw g2) (List.getElem?_eq_getElem hlt) y F2 g2.ff g2.fh
            have g13 := g2.trans g3
            refine ⟨F0, H0, wipeD ρ vs, F3, ds[i], ρ1, ((S.gr g1).gr g13).wipe vs, r3, eg, fun σ4 S4 l4 o4 => ⟨?_, ?_⟩⟩
            · exact wipe_same l4 fun j hj => o4 j fun z => hj (hv j z)
            · have d3 : F3 D = none := g3.nw D (by rw [hH2]; exact fun z => nomatch z) f2
              have h3 : H3 D = some (.lst (bs.map V.ref)) := g3.hh _ _ hH2
              have keep : ∀ {Fa Ha Fb Hb}, Gr Fa Ha Fb Hb → RepN K mg H1 Fa Ha ys bs → RepN K mg H1 Fb Hb ys bs := fun g r => RepN.imp g.ff r fun b _ ws f e => ⟨g.nw b (by rw [e]; exact fun z => nomatch z) f, g.hh _ _ e⟩
              split at e2
              · rename_i et
                refine ⟨F0, H0, ρ1, F3, true, S4, et, fun F5 H5 g5 => ?_⟩
                refine iteT ?_
                split at e2
                · rename_i y' ey
                  split at e2
                  · rename_i ys' ee
                    cases e2
                    refine ⟨F0, H0, ρ1, F5, y', S4.gr g5, ey, fun F6 b ws H6 g6 hb5 fb6 hb6 r6 => ?_⟩
                    have g16 := (g13.trans g5).trans g6
                    have g36 := g5.trans g6
                    have h6 : H6 D = some (.lst (bs.map V.ref)) := g36.hh _ _ h3
                    have d6 : F6 D = none := g36.nw D (by rw [h3]; exact fun z => nomatch z) d3
                    have h5 : H5 D = some (.lst (bs.map V.ref)) := g5.hh _ _ h3
                    have bD : b ≠ D := fun z => by rw [z, h5] at hb5; cases hb5
                    have r5 := keep (g3.trans g5) r2
                    have nb : b ∉ bs := fun m => by
                      obtain ⟨_, _, ws', e'⟩ := r5.mem m
                      rw [hb5] at e'
                      cases e'
                    have b1 : H1 b = none := (g13.trans g5).hh.free hb5
                    have r6' := keep g6 r5
                    refine ⟨bs.map V.ref, h6, by rw [List.length_map]; omega, F6, bs ++ [b], ys ++ [y'], ys', ?_, d6, ?_, by rw [List.length_append, List.length_singleton]; omega, ?_, ?_, ?_, ee, by rw [List.append_assoc]; exact ez⟩
                    · exact ⟨g16.ff, fun b o e => by
                        rw [upd_ne (ne_of_none e hD)]
                        exact g16.hh _ _ e, fun b o e => by
                        rw [upd_ne (ne_of_none e d6)]
                        exact g16.fh _ _ e, g16.nw⟩
                    · rw [upd_same, List.map_append]
                      rfl
                    · intro m
                      rcases List.mem_append.mp m with m | m
                      · exact nD m
                      · exact bD (List.mem_singleton.mp m).symm
                    · rw [List.nodup_append]
                      exact ⟨nd, List.nodup_cons.mpr ⟨by simp, List.nodup_nil⟩, fun a ha c hc z => nb (by rw [← List.mem_singleton.mp hc, ← z]; exact ha)⟩
                    · refine RepN.app b1 fb6 (by rw [upd_ne bD]; exact hb6) r6 (RepN.imp (Same.refl _) r6' fun c m ws f e => ⟨f, ?_⟩)
                      rw [upd_ne (fun z => nD (by rw [← z]; exact m))]
                      exact e
                  · cases e2
                · cases e2
              · rename_i et
                refine ⟨F0, H0, ρ1, F3, false, S4, et, fun F5 H5 g5 => ?_⟩
                refine iteF ?_
                exact ⟨F5, bs, ys, zs', g13.trans g5, g5.nw D (by rw [h3]; exact fun z => nomatch z) d3, g5.hh _ _ h3, by omega, nD, nd, keep (g3.trans g5) r2, e2, ez⟩
              · cases e2
          · cases e2
        · have ei : i = ds.length := by omega
          refine .inl ⟨by rw [ei]; exact it.stop H2 (hw g2), ?_⟩
          rw [ei, List.drop_length] at e2
          cases e2
          rw [List.append_nil] at ez
          subst ez
          have gg := g1.trans g2
          have SS := S.gr gg
          have hn : ∀ b, H b = none → ∀ (j : Nat) (lw : LV), ρ[j]? = some lw → ¬ Own H2 lw σ[j]? b := fun b hb j lw ej o => by
            have o' := ((S.at_ j lw ej).keep gg.ff fun b o ow hb fb => ⟨gg.nw b (by rw [hb]; exact fun z => nomatch z) fb, gg.hh _ _ hb⟩).2 b o
            exact (S.ownF ej o').2.2 hb
          refine q F2 _ H2 gg.ff ?_
          refine SS.put (lv := .nw ys) hi ⟨D, bs, rfl, S.h0.free (g1.hh.free hD), f2, hH2, nD, nd, ?_⟩ fun j lw b _ ej o => ?_
          · have : ∀ {dss : List (List DL.D)} {cs : List Addr}, RepN K mg H1 F2 H2 dss cs → RepN K mg H0 F2 H2 dss cs := by
              intro dss
              induction dss with
              | nil => exact fun h => h
              | cons x r ih =>
                intro cs h
                obtain ⟨c, rs, ws, e, h1, h2, h3, h4, h5⟩ := h
                exact ⟨c, rs, ws, e, S.h0.free (g1.hh.free h1), h2, h3, h4, ih h5⟩
            exact this r2
          · rcases o with o | ⟨a, vs', o1, o2, o3⟩
            · cases o
              exact hn D (g1.hh.free hD) j lw ej
            · cases o1
              rw [hH2] at o2
              cases o2
              obtain ⟨c, m, ec⟩ := List.mem_map.mp o3
              cases ec
              obtain ⟨h1, _, _⟩ := r2.mem m
              exact hn b (g1.hh.free h1) j lw ej
      · cases hd
    · cases hd
  · cases hd
theorem iteD_t {c : Prop} [Decidable c] {A B : Prop} (h : c) (a : A) : if decide c = true then A else B := by
  rw [decide_eq_true h]
  exact iteT a
theorem iteD_f {c : Prop} [Decidable c] {A B : Prop} (h : ¬ c) (b : B) : if decide c = true then A else B := by
  rw [decide_eq_false h]
  exact iteF b
section
variable {X : Cx} {st : Stmt} {pos apos cpos : Pos} {e : Expr} {es : List Expr}
theorem pds_setN {i : Nat} {y : Str} {py : Pos} {elt tg iter : Expr} {ifs : List Expr} {scope : Scope} {own : List (Str × Nat)} {is : List Nat} {spos : Pos} {δi : DA} {γ : DG} {δt : DT} {δl : DA} (hc : X.calm = true) (hN : X.N.Nodup) (hy : X.N[i]? = some y) (hyl : X.env.scope.names.lookup y = some .local)
    (hsw : swapsWith (.ListComp elt [⟨tg, iter, ifs, 0⟩] scope pos) (some (.Name y py)) spos.line X.env = pure true) (hi : PDI X tg iter δi) (ok : BlkOk X.N X.env.scope scope own)
    (hg : ∀ (s : Shared) (H : Hp) (C : Addr) (cl : List (Str × Addr)) (fp : List Addr), PDG (X.blk s H scope (compEnvC scope cl C X.env) fp) tg γ is) (ht : ∀ (s : Shared) (H : Hp) (C : Addr) (cl : List (Str × Addr)) (fp : List Addr), PDTs (X.blk s H scope (compEnvC scope cl C X.env) fp) ifs δt)
    (he : ∀ (s : Shared) (H : Hp) (C : Addr) (cl : List (Str × Addr)) (fp : List Addr), PDO (X.blk s H scope (compEnvC scope cl C X.env) fp) elt δl) (hs : ∀ x, foldedSetIterable iter X.env x = pure x := by intro _; rfl) (hv : ∀ i ∈ is, i ∈ own.map (·.2) := by decide) :
    PDS X (.Assign [.Name y py] (.ListComp elt [⟨tg, iter, ifs, 0⟩] scope pos) spos) (setN i (own.map (·.2)) δi γ δt δl) :=
  (ps_setLc hc hN hy hyl hsw hi ok hg ht he hs).imp (lcN_of hv)
def lnE (i : Nat) : DE := fun ρ => match ρ[i]? with
  | some (.nw dss) => some (.int dss.length)
  | _ => none
theorem pde_lenN {p px : Pos} {x : Str} (i : Nat) (hg : Gl X "len") (hm : X.mg "len" = none) (hN : X.N[i]? = some x) (hv : Vis X.env.scope x) (hd : (x == ("__debug__" : Str)) = false := by decide) (hcd : (x == ("__classdict__" : Str)) = false := by decide)
    (he : starEach [.Name x px] X.env = (false, eval (.Name x px) X.env) :: starEach [] X.env := by rfl) (hpl : (backTo pos (starEach [] X.env)).any (·.1) = false := by rfl) : PDE X (.Call (.Name "len" p) [.Name x px] [] pos) (lnE i) :=
  (pe_callB call_len_seq hg hm PySem.boot_len (pa_cons (pe_var hN hv hd hcd) pa_nil he) (by decide) (by decide) he hpl).imp fun σ H Q ⟨F0, H0, ρ, F, d, S, hd, q⟩ => by
    unfold lnE at hd
    split at hd
    · rename_i dss e
      cases hd
      obtain ⟨a, bs, h1, h2, h3, h4, h5, h6, h7⟩ := S.at_ i _ e
      exact ⟨.ref a, h1, a, _, rfl, .inl (SqL.of h4), q F _ H S.r (by rw [List.length_map, h7.len]; exact rfl)⟩
    · cases hd
def napS (i : Nat) (f : List D → List D → Option (List D)) (δi : DE) (δs : DA) : DS := fun ρ => match ρ[i]? with
  | some (.nw dss) => match δi ρ with
    | some (.int k) => match ixN dss.length k with
      | some j => match dss[j]? with
        | some ds => match δs ρ with
          | some as => match f ds as with
            | some ds' => some (.nx (ρ.set i (.nw (dss.set j ds'))))
            | none => none
          | none => none
        | none => none
      | none => none
    | _ => none
  | _ => none
theorem atI_refs {bs : List Addr} {k : Int} {j n : Nat} {b : Addr} (hl : bs.length = n) (h : ixN n k = some j) (hb : bs[j]? = some b) : atI (bs.map V.ref) k = some (.ref b) := by
  unfold atI
  rw [List.length_map, hl, h]
  show (bs.map V.ref)[j]? = _
  rw [List.getElem?_map, hb]
  rfl
theorem SR.inner {K : PySem.W.Frag} {mg : Mg} {F0 H0 F H : Hp} {ρ : Env} {σ : St} (S : SR K mg F0 H0 ρ F σ H) {i j : Nat} {dss : List (List D)} {ds' : List D} {a b : Addr} {bs : List Addr} {ws : List V} (e : ρ[i]? = some (.nw dss)) (h1 : σ[i]? = some (some (.ref a))) (h4 : H a = some (.lst (bs.map V.ref)))
    (h5 : a ∉ bs) (h6 : bs.Nodup) (h7 : RepN K mg H0 F H dss bs) (h2 : H0 a = none) (h3 : F a = none) (hb : bs[j]? = some b) (r : RepL K mg F ds' ws) : SR K mg F0 H0 (ρ.set i (.nw (dss.set j ds'))) F σ (upd H b (.lst ws)) := by
  have mb : b ∈ bs := List.mem_of_getElem? hb
  have ab : a ≠ b := fun z => h5 (by rw [z]; exact mb)
  refine S.write e (.inr ⟨a, _, h1, h4, List.mem_map.mpr ⟨b, mb, rfl⟩⟩) ⟨a, bs, h1, h2, h3, by rw [upd_ne ab]; exact h4, h5, h6, h7.put r h6 hb⟩ fun c o => .inl ?_
  rcases o with o | ⟨a', vs, o1, o2, o3⟩
  · exact .inl o
  · rw [h1] at o1
    cases o1
    rw [upd_ne ab] at o2
    exact .inr ⟨a, vs, h1, o2, o3⟩
theorem pds_nap {i : Nat} {x name : Str} {id : String} {r : V → List V → Hp → VK → Prop} {f : List D → List D → Option (List D)} {px : Pos} {ix : Expr} {sp : Pos} {δi : DE} {δs : DA} (slot : Slot "list" name id) (hty : typeOf (.builtin id) = pure (.type "method_descriptor")) (hm : MtR X id r) (hf : MutD X.K X.mg r f)
    (hN : X.N[i]? = some x) (hv : Vis X.env.scope x) (hi : PDV X ix δi) (ha : PDA X (e :: es) δs) (hd : (x == ("__debug__" : Str)) = false := by decide) (hcd : (x == ("__classdict__" : Str)) = false := by decide) (hpx : PlainIx ix := by exact fun _ _ => rfl)
    (hbase : attributeBase (.Subscript (.Name x px) ix sp) name X.env (eval (.Subscript (.Name x px) ix sp) X.env) = eval (.Subscript (.Name x px) ix sp) X.env := by rfl)
    (hfew : ((backTo cpos (starEach (e :: es) X.env)).all (fun x => !x.1) && (backToKw cpos (keywordEach [] X.env)).all (fun x => x.1.isSome)
      && decide ((e :: es).length + ([] : List Keyword).length + (if ([] : List Keyword).isEmpty then 0 else 1) < 30)) = true := by rfl)
    (hline : (apos.endLine == cpos.line) = true := by rfl) (hs : starEach (e :: es) X.env = (false, eval e X.env) :: starEach es X.env := by rfl) (hplain : (backTo cpos (starEach es X.env)).any (·.1) = false := by rfl)
    (hsw : swapsWith (.Call (.Attribute (.Subscript (.Name x px) ix sp) name apos) (e :: es) [] cpos) none pos.line X.env = pure false := by rfl) :
    PDS X (.Expr (.Call (.Attribute (.Subscript (.Name x px) ix sp) name apos) (e :: es) [] cpos) pos) (napS i f δi δs) :=
  (ps_expr (pe_bm PySem.F.plainAttrs_list slot hty hm (pe_ix ix_list (pe_var hN hv hd hcd) hi hpx) ha hbase hfew hline hs hplain) hsw).imp fun E σ H ⟨F0, H0, ρ, F, fl, S, e, q⟩ => by
    unfold napS at e
    split at e
    · rename_i dss e1
      split at e
      · rename_i k e2
        split at e
        · rename_i j e3
          split at e
          · rename_i ds e4
            split at e
            · rename_i as e5
              split at e
              · rename_i ds' e6
                cases e
                obtain ⟨a, bs, h1, _, _, _, _, _, _⟩ := S.at_ i _ e1
                refine ⟨.ref a, h1, F0, H0, ρ, F, _, S, e2, fun F1 v H1 g1 r1 => ?_⟩
                obtain ⟨a1, bs, h1', h2, h3, h4, h5, h6, h7⟩ := (S.gr g1).at_ i _ e1
                rw [h1] at h1'
                cases h1'
                obtain ⟨b, ws, hb, b1, b2, b3, b4⟩ := h7.get e4
                refine ⟨a, _, k, .ref b, rfl, r1, SqL.of h4, atI_refs h7.len e3 hb, .inl ⟨rfl, _, SqL.of b3⟩, F0, H0, ρ, F1, as, S.gr g1, e5, fun F2 xs H2 g2 r2 => ?_⟩
                have keep := RepN.imp g2.ff h7 (F' := F2) (H' := H2) fun c _ ws f e => ⟨g2.nw c (by rw [e]; exact fun z => nomatch z) f, g2.hh _ _ e⟩
                have f2 : F2 b = none := g2.nw b (by rw [b3]; exact fun z => nomatch z) b2
                refine hf F2 H2 b ws xs ds as ds' _ g2.fh f2 (g2.hh _ _ b3) (b4.mono g2.ff) r2 e6 fun v vs' r3 => ?_
                exact q F2 σ _ (g1.ff.trans g2.ff) (((S.gr g1).gr g2).inner e1 h1 (g2.hh _ _ h4) h5 h6 keep h2 (g2.nw a (by rw [h4]; exact fun z => nomatch z) h3) hb r3)
              · cases e
            · cases e
          · cases e
        · cases e
      · cases e
    · cases e
def nxaS (i : Nat) (δ : DA) : DS := fun ρ => match ρ[i]? with
  | some (.nw dss) => match δ ρ with
    | some ds => if dss.length < sizeLine then some (.nx (ρ.set i (.nw (dss ++ [ds])))) else none
    | none => none
  | _ => none
theorem pds_nxa {i : Nat} {x : Str} {px : Pos} {δ : DA} (hN : X.N[i]? = some x) (hv : Vis X.env.scope x) (ha : PDO X e δ) (hd : (x == ("__debug__" : Str)) = false := by decide) (hcd : (x == ("__classdict__" : Str)) = false := by decide)
    (hbase : attributeBase (.Name x px) "append" X.env (eval (.Name x px) X.env) = eval (.Name x px) X.env := by rfl)
    (hfew : ((backTo cpos (starEach [e] X.env)).all (fun x => !x.1) && (backToKw cpos (keywordEach [] X.env)).all (fun x => x.1.isSome)
      && decide ([e].length + ([] : List Keyword).length + (if ([] : List Keyword).isEmpty then 0 else 1) < 30)) = true := by rfl)
    (hline : (apos.endLine == cpos.line) = true := by rfl) (hs : starEach [e] X.env = (false, eval e X.env) :: starEach [] X.env := by rfl) (hplain : (backTo cpos (starEach [] X.env)).any (·.1) = false := by rfl)
    (hsw : swapsWith (.Call (.Attribute (.Name x px) "append" apos) [e] [] cpos) none pos.line X.env = pure false := by rfl) :
    PDS X (.Expr (.Call (.Attribute (.Name x px) "append" apos) [e] [] cpos) pos) (nxaS i δ) :=
  (ps_expr (pe_bm PySem.F.plainAttrs_list PySem.F.slot_list_append PySem.F.type_list_append mt_append (pe_var hN hv hd hcd) (pa_cons ha pa_nil hs) hbase hfew hline hs hplain) hsw).imp fun E σ H ⟨F0, H0, ρ, F, fl, S, e, q⟩ => by
    unfold nxaS at e
    split at e
    · rename_i dss e1
      split at e
      · rename_i ds e2
        split at e
        · rename_i hl
          cases e
          obtain ⟨a, bs, h1, h2, h3, h4, h5, h6, h7⟩ := S.at_ i _ e1
          refine ⟨.ref a, h1, .inl ⟨rfl, _, SqL.of h4⟩, F0, H0, ρ, F, ds, S, e2, fun F1 b ws H1 g1 hb fb hb1 r1 => ?_⟩
          have hb0 : ∀ (j : Nat) (lw : LV), ρ[j]? = some lw → ¬ Own H1 lw σ[j]? b := fun j lw ej o => by
            have o' := ((S.at_ j lw ej).keep g1.ff fun b o ow hb fb => ⟨g1.nw b (by rw [hb]; exact fun z => nomatch z) fb, g1.hh _ _ hb⟩).2 b o
            exact (S.ownF ej o').2.2 hb
          have S1 := S.gr g1
          have h4' := g1.hh _ _ h4
          have ba : b ≠ a := fun z => by rw [z, h4] at hb; cases hb
          have nb : b ∉ bs := fun m => by
            obtain ⟨_, _, ws', e'⟩ := h7.mem m
            rw [hb] at e'
            cases e'
          have keep := RepN.imp g1.ff h7 (F' := F1) (H' := H1) fun c _ ws f e => ⟨g1.nw c (by rw [e]; exact fun z => nomatch z) f, g1.hh _ _ e⟩
          refine ⟨a, _, .ref b, rfl, rfl, h4', by rw [List.length_map, h7.len]; exact hl, ?_⟩
          refine q F1 σ _ g1.ff ?_
          have hmap : bs.map V.ref ++ [V.ref b] = (bs ++ [b]).map V.ref := by rw [List.map_append]; rfl
          rw [hmap]
          refine S1.write e1 (.inl h1) ⟨a, bs ++ [b], h1, h2, g1.nw a (by rw [h4]; exact fun z => nomatch z) h3, upd_same, ?_, ?_, ?_⟩ fun c o => ?_
          · intro m
            rcases List.mem_append.mp m with m | m
            · exact h5 m
            · exact ba (List.mem_singleton.mp m).symm
          · rw [List.nodup_append]
            exact ⟨h6, List.nodup_cons.mpr ⟨by simp, List.nodup_nil⟩, fun x hx c hc z => nb (by rw [← List.mem_singleton.mp hc, ← z]; exact hx)⟩
          · refine RepN.app (S.h0.free hb) fb (by rw [upd_ne ba]; exact hb1) r1 (RepN.imp (Same.refl _) keep fun c m ws f e => ⟨f, ?_⟩)
            rw [upd_ne (fun z => h5 (by rw [← z]; exact m))]
            exact e
          · rcases o with o | ⟨a', vs, o1, o2, o3⟩
            · exact .inl (.inl o)
            · rw [h1] at o1
              cases o1
              rw [upd_same] at o2
              cases o2
              obtain ⟨c', m, ec⟩ := List.mem_map.mp o3
              cases ec
              rcases List.mem_append.mp m with m | m
              · exact .inl (.inr ⟨a, _, h1, h4', List.mem_map.mpr ⟨c, m, rfl⟩⟩)
              · right
                intro j lx _ ej
                rw [List.mem_singleton.mp m]
                exact hb0 j lx ej
        · cases e
      · cases e
    · cases e
theorem SR.know1 {K : PySem.W.Frag} {mg : Mg} {F0 H0 F H : Hp} {ρ : Env} {σ : St} (S : SR K mg F0 H0 ρ F σ H) {a : Addr} {o : HO} (f : F a = none) (z : H0 a = none) (e : H a = some o) (hn : ∀ (i : Nat) (lv : LV), ρ[i]? = some lv → ¬ Own H lv σ[i]? a) : SR K mg F0 H0 ρ (upd F a o) σ H := by
  have ff : Same F (upd F a o) := same_new f
  have key : ∀ (i : Nat) (lv : LV), ρ[i]? = some lv → SlotOk K mg H0 (upd F a o) H lv σ[i]? ∧ ∀ b, Own H lv σ[i]? b → Own H lv σ[i]? b := fun i lv ei =>
    (S.at_ i lv ei).keep ff fun b u ob hb fb => ⟨by
      rw [upd_ne (fun q => hn i lv ei (by rw [← q]; exact ob))]
      exact fb, hb⟩
  refine ⟨S.len, S.f0.trans ff, fun b u q => ?_, S.h0, fun b u q => ?_, fun i lv ei => (key i lv ei).1, S.inj⟩
  · by_cases q2 : b = a
    · subst q2
      rw [upd_same] at q
      cases q
      exact e
    · rw [upd_ne q2] at q
      exact S.fh _ _ q
  · by_cases q2 : b = a
    · subst q2
      exact .inl z
    · rw [upd_ne q2] at q
      exact S.nw _ _ q
def insS (t l : Nat) (n : Int) (δi : DE) (δs : DA) : DS := fun ρ => match ρ[t]? with
  | some (.nw dss) => if l < ρ.length ∧ t ≠ l then (match δi ρ with
    | some (.int k) => match ixN dss.length k with
      | some j => match dss[j]? with
        | some ds => if (ds.length : Int) < n then (match δs ((ρ.set t .no).set l (.sh (.lst ds))) with
          | some [.int y, .int z] => match dIns ds [.int y, .int z] with
            | some ds' => some (.nx ((ρ.set l .no).set t (.nw (dss.set j ds'))))
            | none => none
          | _ => none) else some (.nx (ρ.set l .no))
        | none => none
      | none => none
    | _ => none) else none
  | _ => none
theorem pdss_ins {t l : Nat} {x y : Str} {px py1 py2 py3 sp pl pc pos1 pos2 pos3 : Pos} {n : Int} {kc : Nat} {ix : Expr} {δi : DE} {δs : DA} {pn : Pos} (nd : X.N.Nodup) (hN : X.N[t]? = some x) (hv : Vis X.env.scope x) (hL : X.N[l]? = some y) (hl : Loc X.env.scope y) (hlv : Vis X.env.scope y) (hg : Gl X "len") (hm : X.mg "len" = none)
    (hi : PDV X ix δi) (ha : PDA X (e :: es) δs) (hd : (x == ("__debug__" : Str)) = false := by decide) (hcd : (x == ("__classdict__" : Str)) = false := by decide) (hd2 : (y == ("__debug__" : Str)) = false := by decide) (hcd2 : (y == ("__classdict__" : Str)) = false := by decide) (hpx : PlainIx ix := by exact fun _ _ => rfl)
    (hs0 : swapsWith (.Subscript (.Name x px) ix sp) (some (.Name y py1)) pos1.line X.env = pure false := by rfl)
    (hf0 : X.fn y = true ∨ X.env.scope.names.lookup y = some .local := by first | exact .inl rfl | exact .inr rfl | assumption)
    (he1 : starEach [.Name y py2] X.env = (false, eval (.Name y py2) X.env) :: starEach [] X.env := by rfl) (hpl1 : (backTo pl (starEach [] X.env)).any (·.1) = false := by rfl)
    (hbase : attributeBase (.Name y py3) "insert" X.env (eval (.Name y py3) X.env) = eval (.Name y py3) X.env := by rfl)
    (hfew : ((backTo cpos (starEach (e :: es) X.env)).all (fun x => !x.1) && (backToKw cpos (keywordEach [] X.env)).all (fun x => x.1.isSome)
      && decide ((e :: es).length + ([] : List Keyword).length + (if ([] : List Keyword).isEmpty then 0 else 1) < 30)) = true := by rfl)
    (hline : (apos.endLine == cpos.line) = true := by rfl) (hs : starEach (e :: es) X.env = (false, eval e X.env) :: starEach es X.env := by rfl) (hplain : (backTo cpos (starEach es X.env)).any (·.1) = false := by rfl)
    (hsw : swapsWith (.Call (.Attribute (.Name y py3) "insert" apos) (e :: es) [] cpos) none pos3.line X.env = pure false := by rfl) :
    PDSs X [.Assign [.Name y py1] (.Subscript (.Name x px) ix sp) pos1, .If (.Compare (.Call (.Name "len" pc) [.Name y py2] [] pl) [.Lt] [.Constant (.int n) kc pn] pos) [.Expr (.Call (.Attribute (.Name y py3) "insert" apos) (e :: es) [] cpos) pos3] [] pos2] (insS t l n δi δs) :=
  (pss_cons (ps_set (i := l) nd hL hl (pe_ix ix_list (pe_var hN hv hd hcd) hi hpx) hs0 hf0)
    (pss_one (ps_if (pt_cmpR op_lt (pe_callB call_len_seq hg hm PySem.boot_len (pa_cons (pe_var hL hlv hd2 hcd2) pa_nil he1) (by decide) (by decide) he1 hpl1) pe_int (nomark _))
      (pss_one (ps_expr (pe_bm PySem.F.plainAttrs_list PySem.F.slot_list_insert PySem.F.type_list_insert mt_insert (pe_var hL hlv hd2 hcd2) ha hbase hfew hline hs hplain) hsw)) pss_nil))).imp fun E σ H ⟨F0, H0, ρ, F, fl, S, e, q⟩ => by
    unfold insS at e
    split at e
    · rename_i dss e1
      split at e
      · rename_i hl0
        obtain ⟨hll, htl⟩ := hl0
        split at e
        · rename_i k e2
          split at e
          · rename_i j e3
            split at e
            · rename_i ds e4
              obtain ⟨a, bs, h1, _, _, _, _, _, _⟩ := S.at_ t _ e1
              refine ⟨.ref a, h1, F0, H0, ρ, F, _, S, e2, fun F1 v H1 g1 r1 => ?_⟩
              obtain ⟨a1, bs, h1', h2, h3, h4, h5, h6, h7⟩ := (S.gr g1).at_ t _ e1
              rw [h1] at h1'
              cases h1'
              obtain ⟨b, ws, hb, b1, b2, b3, b4⟩ := h7.get e4
              have S2 : SR X.K X.mg F0 H0 (ρ.set l .no) F1 (σ.set l (some (.ref b))) H1 := (S.gr g1).forget
              have e1' : (ρ.set l .no)[t]? = some (.nw dss) := by rw [List.getElem?_set_ne (Ne.symm htl)]; exact e1
              have h1s : (σ.set l (some (V.ref b)))[t]? = some (some (.ref a)) := by rw [List.getElem?_set_ne (Ne.symm htl)]; exact h1
              have hls : (σ.set l (some (V.ref b)))[l]? = some (some (.ref b)) := List.getElem?_set_self (by rw [← S.len]; exact hll)
              refine ⟨a, _, k, .ref b, rfl, r1, SqL.of h4, atI_refs h7.len e3 hb, .ref b, hls, b, ws, rfl, .inl (SqL.of b3), _, n, rfl, rfl, _, rfl, ?_⟩
              rw [b4.len]
              split at e
              · rename_i hlt
                refine iteD_t hlt ?_
                split at e
                · rename_i yi zi e5
                  split at e
                  · rename_i ds' e6
                    cases e
                    have S1 := S.gr g1
                    have e1t : t < ρ.length := (List.getElem?_eq_some_iff.mp e1).1
                    have S3 : SR X.K X.mg F0 H0 (ρ.set t .no) F1 (σ.set t (some (.ref a))) H1 := S1.put e1t True.intro fun _ _ _ _ _ o => o.elim
                    have es : σ.set t (some (V.ref a)) = σ := by
                      apply List.ext_getElem?
                      intro m
                      by_cases hm : t = m
                      · subst hm
                        rw [List.getElem?_set_self (by rw [← S.len]; exact e1t), h1]
                      · rw [List.getElem?_set_ne hm]
                    rw [es] at S3
                    have S4 := S3.know1 (a := b) b2 b1 b3 fun m lw em o => by
                      by_cases hm : t = m
                      · subst hm
                        rw [List.getElem?_set_self e1t] at em
                        cases em
                        exact o
                      · rw [List.getElem?_set_ne hm] at em
                        exact hm (S1.inj t m _ lw b e1 em (.inr ⟨a, _, h1, h4, List.mem_map.mpr ⟨b, List.mem_of_getElem? hb, rfl⟩⟩) o)
                    have S5 := S4.set' (i := l) (d := .lst ds) (v := .ref b) ⟨b, ws, rfl, upd_same, b4.mono (same_new b2)⟩
                    refine ⟨.ref b, hls, .inl ⟨rfl, _, SqL.of b3⟩, F0, H0, _, _, _, S5, e5, fun F2 xs H2 g2 r2 => ?_⟩
                    have gk : Gr F1 H1 F1 H2 := ⟨Same.refl _, g2.hh, S1.fh.trans g2.hh, fun _ _ z => z⟩
                    have keep := RepN.imp (Same.refl _) h7 (F' := F1) (H' := H2) fun c _ ws f e => ⟨f, g2.hh _ _ e⟩
                    obtain ⟨v1, w1, rfl, q1, v2, w2, rfl, q2, q3⟩ := r2
                    rw [show v1 = _ from q1, show v2 = _ from q2, show w2 = [] from q3]
                    refine mutd_ins F1 H2 b ws _ ds [.int yi, .int zi] ds' (fun _ H1 => E.nx (σ.set l (some (V.ref b))) H1) gk.fh b2 (g2.hh _ _ b3) b4 (.cons rfl (.cons rfl .nil)) e6 fun v vs' r3 => ?_
                    exact q F1 _ _ g1.ff ((S2.gr gk).inner e1' h1s (g2.hh _ _ h4) h5 h6 keep h2 h3 hb r3)
                  · cases e
                · cases e
              · rename_i hlt
                cases e
                refine iteD_f hlt ?_
                exact q F1 _ H1 g1.ff S2
            · cases e
          · cases e
        · cases e
      · cases e
    · cases e
end
def frzE (n : Nat) (δ : DA) : DE := fun ρ => match δ ρ with
  | some [d] => frzD n d
  | _ => none
theorem pde_frz {X : Cx} {pos p : Pos} {e : Expr} {δs : DA} {k n : Nat} {f : Addr} {fd : FuncData} {ps : List Str} {x : Str} (G : FnOk X.prog X.w X.K X.mg X.base CX0 k f fd ps (spFz X.K X.mg n)) (hr : Room k X.A) (hg : Gl X x) (hm : X.mg x = some (.ref f)) (hk : PySem.W.keepIn X.K (.ref f) = true) (hb : Binds X.K fd ps [])
    (ha : PDBs X [e] δs) (hdb : (x == ("__debug__" : Str)) = false := by decide) (he : starEach [e] X.env = (false, eval e X.env) :: starEach [] X.env := by rfl) (hpl : (backTo pos (starEach [] X.env)).any (·.1) = false := by rfl) :
    PDE X (.Call (.Name x p) [e] [] pos) (frzE n δs) := (L2.pe_call G hr hg hm hk hb .nil pass0 ha hdb he hpl).imp fun σ H Q ⟨F0, H0, ρ, F, z, S, hd, q⟩ => by
  unfold frzE at hd
  split at hd
  · rename_i d e1
    refine ⟨F0, H0, ρ, F, _, S, e1, fun F1 vs H1 g1 r1 => ?_⟩
    obtain ⟨v, w, rfl, h1, h2⟩ := r1
    rw [show w = [] from h2]
    exact ⟨rfl, F1, v, d, z, rfl, g1.fh, h1, hd, fun F2 u H2 g2 r2 => q F2 u H2 (g1.trans g2) r2⟩
  · cases hd
end DL
namespace DL
open PySem L2
def spLaw (K : PySem.W.Frag) : Sp := fun vs H Q _ => ∃ (a : Addr) (ns : List Int), vs = [.ref a] ∧ SqL K H a (ns.map V.int) ∧ ns.length ≤ 63 ∧ (∀ z ∈ ns, Builtin.Int.intBits z ≤ 1048576) ∧ ∀ H', Q (.bl true) H'
theorem law_imp {P : Program} {w : World} {K : PySem.W.Frag} {mg : Mg} {base : Heap} {k : Nat} {f : Addr} {fd : FuncData} {ps : List Str} {g : List D → Option D} (hg : ∀ ns : List Int, ns.length ≤ 63 → (∀ z ∈ ns, Builtin.Int.intBits z ≤ 1048576) → g [.scr ns] = some (.bl true))
    (G : FnOk P w K mg base CX0 k f fd ps (spD K mg 1 g)) : FnOk P w K mg base CX0 k f fd ps (spLaw K) := G.imp fun vs H Q E h => by
  obtain ⟨a, ns, rfl, hS, hl, hb, q⟩ := h
  exact ⟨rfl, H, [.scr ns], .bl true, Same.refl _, ⟨_, _, rfl, ⟨a, rfl, hS⟩, rfl⟩, hg ns hl hb, fun F' v H' _ r => by rw [show v = _ from r]; exact q H'⟩
theorem walk (lv : Nat) {l : PySem.W.OpenLaw} {q : Program} {loose : List Str} {XP : (Str → Option Value) → Heap → Prop} {YP : World → Heap → Prop} {d : DefRec} {K : Params → PySem.W.Frag} (hn : l.most = some 63) (hdf : d.params.defaults = []) (hr : Room lv callerA)
    (hY : ∀ (w : World) (h : Heap), YP w h → (K w.params).In h)
    (F : ∀ (w : World) (mg : Str → Option Value) (fa : Addr) (h : Heap), (K w.params).In h → h.Ns mainGlobals mg → mg d.name = some (.ref fa) →
      ∃ fd : FuncData, (∀ (s : Shared) (u : Value), BindsTo s fd ⟨[u], []⟩ [("script", u)]) ∧ ∀ base : Heap, (K w.params).In base → base.Ns mainGlobals mg → FnOk l.prog w (K w.params) mg base CX0 lv fa fd ["script"] (spLaw (K w.params))) :
    PySem.W.WalkO q loose XP YP l.row.toRowW d [] (fun f vs => PySem.call f vs) :=
  L2.walk_ofB (n := 63) (k := lv) (x := "script") (CX := fun _ => CX0) (sp := fun w => spLaw (K w.params)) hn (by decide) hdf hr hY F (fun _ _ a ns hl hb _ hS => ⟨a, ns, rfl, hS, hl, hb, fun _ => rfl⟩) fun _ _ _ _ _ z => z
end DL
namespace DL
open PySem L2
def wo {α : Type} (o : Option α) (Q : α → Prop) : Prop := ∃ d, o = some d ∧ Q d
def wp (δ : DS) (ρ : Env) (Q : Fl → Prop) : Prop := ∃ fl, δ ρ = some fl ∧ Q fl
section wo
variable {α β : Type} {o : Option α} {a : α} {Q R : α → Prop}
@[simp] theorem wo_some : wo (some a) Q ↔ Q a := ⟨fun ⟨_, e, h⟩ => by cases e; exact h, fun h => ⟨a, rfl, h⟩⟩
@[simp] theorem wo_none : wo (none : Option α) Q ↔ False := ⟨fun ⟨_, e, _⟩ => (by cases e), fun h => False.elim h⟩
@[simp] theorem wo_bind {f : α → Option β} {Q : β → Prop} : wo (o.bind f) Q ↔ wo o fun x => wo (f x) Q := by
  cases o <;> simp
@[simp] theorem wo_map {f : α → β} {Q : β → Prop} : wo (o.map f) Q ↔ wo o fun x => Q (f x) := by
  cases o <;> simp
@[simp low] theorem wo_ite {c : Prop} [Decidable c] {o' : Option α} : wo (if c then o else o') Q ↔ (c → wo o Q) ∧ (¬c → wo o' Q) := by
  by_cases h : c <;> simp [h]
@[simp high] theorem wo_guard {c : Prop} [Decidable c] : wo (if c then o else none) Q ↔ c ∧ wo o Q := by
  by_cases h : c <;> simp [h]
theorem wo.mono (h : wo o Q) (i : ∀ x, Q x → R x) : wo o R := let ⟨d, e, q⟩ := h; ⟨d, e, i d q⟩
theorem wo_eq (h : o = some a) (q : Q a) : wo o Q := ⟨a, h, q⟩
theorem wo.and (h : wo o Q) (i : wo o R) : wo o fun x => Q x ∧ R x := let ⟨d, e, q⟩ := h; let ⟨d', e', q'⟩ := i; ⟨d, e, q, by rw [e] at e'; cases e'; exact q'⟩
theorem wo_ex {a : α} : wo o (fun x => x = a) ↔ o = some a := ⟨fun ⟨_, e, h⟩ => by rw [e, h], fun h => ⟨a, h, rfl⟩⟩
end wo
theorem wp_eq {δ : DS} {ρ : Env} {fl : Fl} {Q : Fl → Prop} (h : δ ρ = some fl) (q : Q fl) : wp δ ρ Q := ⟨fl, h, q⟩
theorem wp.mono {δ : DS} {ρ : Env} {Q R : Fl → Prop} (h : wp δ ρ Q) (i : ∀ x, Q x → R x) : wp δ ρ R := let ⟨d, e, q⟩ := h; ⟨d, e, i d q⟩
def shAt (ρ : Env) (i : Nat) : Option D := match ρ[i]? with
  | some (.sh d) => some d
  | _ => none
def vAt (ρ : Env) (i : Nat) : Option D := match ρ[i]? with
  | some (.sh d) => some d
  | some (.ow ds) => some (.lst ds)
  | _ => none
def owAt (ρ : Env) (i : Nat) : Option (List D) := match ρ[i]? with
  | some (.ow ds) => some ds
  | _ => none
def nwAt (ρ : Env) (i : Nat) : Option (List (List D)) := match ρ[i]? with
  | some (.nw ds) => some ds
  | _ => none
def ooAt (ρ : Env) (i : Nat) : Option (Addr × Addr × Str × List (Str × D)) := match ρ[i]? with
  | some (.oo x dx c fs) => some (x, dx, c, fs)
  | _ => none
def bAt (ρ : Env) (i : Nat) : Option D := match ρ[i]? with
  | some (.sh d) => some d
  | some (.bw d) => some d
  | some (.ow ds) => some (.lst ds)
  | some (.nw dss) => some (.lst (dss.map .lst))
  | _ => none
section
variable {x : LV} {ρ : Env} {i : Nat} {d : D} {ds : List D}
@[simp] theorem shAt_z : shAt (.sh d :: ρ) 0 = some d := rfl
@[simp] theorem shAt_s : shAt (x :: ρ) (i + 1) = shAt ρ i := rfl
@[simp] theorem vAt_z : vAt (.sh d :: ρ) 0 = some d := rfl
@[simp] theorem vAt_o : vAt (.ow ds :: ρ) 0 = some (.lst ds) := rfl
@[simp] theorem vAt_s : vAt (x :: ρ) (i + 1) = vAt ρ i := rfl
@[simp] theorem owAt_z : owAt (.ow ds :: ρ) 0 = some ds := rfl
@[simp] theorem owAt_s : owAt (x :: ρ) (i + 1) = owAt ρ i := rfl
@[simp] theorem nwAt_z {ds} : nwAt (.nw ds :: ρ) 0 = some ds := rfl
@[simp] theorem nwAt_s : nwAt (x :: ρ) (i + 1) = nwAt ρ i := rfl
@[simp] theorem ooAt_z {x dx c fs} : ooAt (.oo x dx c fs :: ρ) 0 = some (x, dx, c, fs) := rfl
@[simp] theorem ooAt_s : ooAt (x :: ρ) (i + 1) = ooAt ρ i := rfl
@[simp] theorem bAt_z : bAt (.sh d :: ρ) 0 = some d := rfl
@[simp] theorem bAt_b : bAt (.bw d :: ρ) 0 = some d := rfl
@[simp] theorem bAt_o : bAt (.ow ds :: ρ) 0 = some (.lst ds) := rfl
@[simp] theorem bAt_n {ds} : bAt (.nw ds :: ρ) 0 = some (.lst (ds.map .lst)) := rfl
@[simp] theorem bAt_s : bAt (x :: ρ) (i + 1) = bAt ρ i := rfl
end
def fldOf (c n : Str) : D → Option D
  | .ob c' fs => if c' = c then fs.lookup n else none
  | _ => none
def obOf : D → Option Str
  | .ob c' _ => some c'
  | _ => none
def oneD : List D → Option D
  | [d] => some d
  | _ => none
def oneI : List D → Option Int
  | [.int i] => some i
  | _ => none
def twoI : List D → Option (Int × Int)
  | [.int i, .int j] => some (i, j)
  | _ => none
@[simp] theorem oneD_ev {d : D} : oneD [d] = some d := rfl
@[simp] theorem oneI_ev {i : Int} : oneI [.int i] = some i := rfl
@[simp] theorem twoI_ev {i j : Int} : twoI [.int i, .int j] = some (i, j) := rfl
section
variable {ρ : Env} {i : Nat} {δ δa δb δc : DE} {ε ε' : DA} {τ τ' : DT} {f g : D → D → Option D} {Q : D → Prop} {R : List D → Prop} {T : Bool → Prop}
@[simp] theorem vE_ev : vE i ρ = shAt ρ i := rfl
@[simp] theorem vV_ev : vV i ρ = vAt ρ i := rfl
@[simp] theorem bE_ev : bE i ρ = bAt ρ i := rfl
@[simp] theorem kE_ev {d : D} : kE d ρ = some d := rfl
@[simp] theorem oE_ev : wo (oE ε ρ) Q ↔ wo (ε ρ) fun ds => Q (.lst ds) := by unfold oE; cases ε ρ <;> simp
@[simp] theorem op2_ev : wo (op2 f δa δb ρ) Q ↔ wo (δa ρ) fun x => wo (δb ρ) fun y => wo (f x y) Q := by
  unfold op2; cases δa ρ <;> simp; cases δb ρ <;> simp
@[simp] theorem un1_ev {f : D → Option D} : wo (un1 f δ ρ) Q ↔ wo (δ ρ) fun x => wo (f x) Q := by
  unfold un1; cases δ ρ <;> simp
@[simp] theorem nilA_ev : nilA ρ = some [] := rfl
@[simp] theorem consA_ev : wo (consA δ ε ρ) R ↔ wo (δ ρ) fun d => wo (ε ρ) fun ds => R (d :: ds) := by
  unfold consA; cases δ ρ <;> simp; cases ε ρ <;> simp
@[simp] theorem tupE_ev : wo (tupE ε ρ) Q ↔ wo (ε ρ) fun ds => ds.length ≤ sizeLine ∧ Q (.tup ds) := by
  unfold tupE; cases ε ρ <;> simp
@[simp] theorem lstO_ev : wo (lstO ε ρ) R ↔ wo (ε ρ) fun ds => ds.length ≤ sizeLine ∧ R ds := by
  unfold lstO; cases ε ρ <;> simp
@[simp] theorem op2O_ev {f : D → D → Option (List D)} : wo (op2O f δa δb ρ) R ↔ wo (δa ρ) fun x => wo (δb ρ) fun y => wo (f x y) R := by
  unfold op2O; cases δa ρ <;> simp; cases δb ρ <;> simp
@[simp] theorem call1_ev {f : List D → Option D} : wo (call1 f ε ρ) Q ↔ wo (ε ρ) fun ds => wo (f ds) Q := by
  unfold call1; cases ε ρ <;> simp
@[simp] theorem callK_ev {f : List D → Option D} : wo (callK f ε ε' ρ) Q ↔ wo (ε ρ) fun ds => wo (ε' ρ) fun es => wo (f (ds ++ es)) Q := by
  unfold callK; cases ε ρ <;> simp; cases ε' ρ <;> simp
def asBl : D → Option Bool
  | .bl b => some b
  | _ => none
@[simp] theorem asBl_bl {b : Bool} : asBl (.bl b) = some b := rfl
@[simp] theorem tE_ev : wo (tE δ ρ) T ↔ wo (δ ρ) fun d => wo (asBl d) T := by
  unfold tE; cases h : δ ρ with
  | none => simp
  | some d => cases d <;> simp [asBl]
@[simp] theorem andT_ev : wo (andT τ τ' ρ) T ↔ wo (τ ρ) fun b => (b = true → wo (τ' ρ) T) ∧ (b = false → T false) := by
  unfold andT; cases τ ρ with
  | none => simp
  | some b => cases b <;> simp
@[simp] theorem orT_ev : wo (orT τ τ' ρ) T ↔ wo (τ ρ) fun b => (b = true → T true) ∧ (b = false → wo (τ' ρ) T) := by
  unfold orT; cases τ ρ with
  | none => simp
  | some b => cases b <;> simp
@[simp] theorem notT_ev : wo (notT τ ρ) T ↔ wo (τ ρ) fun b => T (!b) := by unfold notT; cases τ ρ <;> simp
@[simp] theorem yesT_ev : yesT ρ = some true := rfl
@[simp] theorem andE_ev : wo (andE δa δb ρ) Q ↔ wo (δa ρ) fun d => wo (asBl d) fun b => (b = true → wo (δb ρ) Q) ∧ (b = false → Q (.bl false)) := by
  unfold andE; cases δa ρ with
  | none => simp
  | some d => cases d with
    | bl b => cases b <;> simp
    | _ => simp [asBl]
@[simp] theorem orE_ev : wo (orE δa δb ρ) Q ↔ wo (δa ρ) fun d => wo (asBl d) fun b => (b = true → Q (.bl true)) ∧ (b = false → wo (δb ρ) Q) := by
  unfold orE; cases δa ρ with
  | none => simp
  | some d => cases d with
    | bl b => cases b <;> simp
    | _ => simp [asBl]
@[simp] theorem notE_ev : wo (notE δ ρ) Q ↔ wo (δ ρ) fun d => wo (asBl d) fun b => Q (.bl (!b)) := by
  unfold notE; rw [un1_ev]; cases δ ρ with
  | none => simp
  | some d => cases d <;> simp [dNot, asBl]
@[simp] theorem ifE_ev : wo (ifE τ δa δb ρ) Q ↔ wo (τ ρ) fun b => (b = true → wo (δa ρ) Q) ∧ (b = false → wo (δb ρ) Q) := by
  unfold ifE; cases τ ρ with
  | none => simp
  | some b => cases b <;> simp
@[simp] theorem ch3_ev : wo (ch3 f g δa δb δc ρ) Q ↔ wo (δa ρ) fun x => wo (δb ρ) fun y => wo (f x y) fun r => wo (asBl r) fun b => (b = true → wo (δc ρ) fun z => wo (g y z) Q) ∧ (b = false → Q (.bl false)) := by
  unfold ch3
  cases δa ρ with
  | none => simp
  | some x => cases δb ρ with
    | none => simp
    | some y =>
      simp only [wo_some]
      cases f x y with
      | none => simp
      | some r => cases r with
        | bl b => cases b
                  · simp
                  · simp only [wo_some, asBl_bl]; cases δc ρ <;> simp
        | _ => simp [asBl]
@[simp] theorem slE_ev {lo hi : Env → Option (Option Int)} : wo (slE δ lo hi ρ) Q ↔ wo (δ ρ) fun d => wo (lo ρ) fun l => wo (hi ρ) fun h => wo (match d with
    | .lst ds => some (D.lst (cutD ds l h))
    | .tup ds => some (D.tup (cutD ds l h))
    | _ => none) Q := by
  unfold slE
  cases δ ρ with
  | none => simp
  | some d => cases lo ρ with
    | none => simp
    | some l => cases hi ρ with
      | none => simp
      | some h => cases d <;> simp
def asI : D → Option Int
  | .int i => some i
  | _ => none
@[simp] theorem asI_int {i : Int} : asI (.int i) = some i := rfl
@[simp] theorem noP_ev : noP ρ = some none := rfl
@[simp] theorem someP_ev {Q : Option Int → Prop} : wo (someP δ ρ) Q ↔ wo (δ ρ) fun d => wo (asI d) fun i => Q (some i) := by
  unfold someP; cases δ ρ with
  | none => simp
  | some d => cases d <;> simp [asI]
@[simp] theorem fldE_ev {c n : Str} : wo (fldE c n δ ρ) Q ↔ wo (δ ρ) fun d => wo (fldOf c n d) Q := by
  unfold fldE fldOf; cases δ ρ with
  | none => simp
  | some d => cases d <;> simp
@[simp] theorem isD_ev {T : String} : wo (isD T δ ρ) Q ↔ wo (δ ρ) fun d => wo (tyN d) fun n => Q (.bl (isTy n T)) := by
  unfold isD; rw [un1_ev]; cases δ ρ with
  | none => simp
  | some d => cases d <;> simp [dIs, tyN]
@[simp] theorem isOb_ev {c : Str} : wo (isOb c δ ρ) Q ↔ wo (δ ρ) fun d => wo (obOf d) fun c' => c' = c ∧ Q (.bl true) := by
  unfold isOb obOf; cases δ ρ with
  | none => simp
  | some d => cases d <;> simp
@[simp] theorem mkE_ev {c : Str} {g : List D → Option (List (Str × D))} : wo (mkE c g ε ρ) Q ↔ wo (ε ρ) fun ds => wo (g ds) fun fs => Q (.ob c fs) := by
  unfold mkE; cases ε ρ <;> simp; rename_i v; cases g v <;> simp
@[simp] theorem own2E_ev {c : Str} {g : List D → Option D} : wo (own2E c g δa δb ρ) Q ↔ wo (δa ρ) fun x => wo (match x with
    | .ob c1 fs => some (c1, fs)
    | _ => none) fun p => wo (δb ρ) fun y => wo (match y with
    | .ob c2 gs => some (c2, gs)
    | _ => none) fun q => (p.1 = c ∧ q.1 = c) ∧ wo (g [.ob p.1 p.2, .ob q.1 q.2]) Q := by
  unfold own2E
  cases δa ρ with
  | none => simp
  | some x => cases x with
    | ob c1 fs => cases δb ρ with
      | none => simp
      | some y => cases y with
        | ob c2 gs => simp [and_assoc]
        | _ => simp
    | _ => simp
@[simp] theorem frzE_ev {n : Nat} : wo (frzE n ε ρ) Q ↔ wo (ε ρ) fun ds => wo (oneD ds) fun d => wo (frzD n d) Q := by
  unfold frzE; cases ε ρ with
  | none => simp
  | some ds => match ds with
    | [] => simp [oneD]
    | [d] => simp
    | d :: e :: r => simp [oneD]
@[simp] theorem lnE_ev : wo (lnE i ρ) Q ↔ wo (nwAt ρ i) fun dss => Q (.int dss.length) := by
  unfold lnE nwAt; cases ρ[i]? with
  | none => simp
  | some x => cases x <;> simp
@[simp] theorem listO_ev : wo (listO ε ρ) R ↔ wo (ε ρ) fun ds => wo (oneD ds) fun d => wo (seqD d) R := by
  unfold listO; cases ε ρ with
  | none => simp
  | some ds => match ds with
    | [] => simp [oneD]
    | [d] => simp
    | d :: e :: r => simp [oneD]
@[simp] theorem lstI_ev : wo (lstI δ ρ) R ↔ wo (δ ρ) fun d => wo (match d with
    | .lst ds => some ds
    | .scr ns => some (ns.map D.int)
    | _ => none) R := by
  unfold lstI; cases δ ρ with
  | none => simp
  | some d => cases d <;> simp
@[simp] theorem tupI_ev : wo (tupI δ ρ) R ↔ wo (δ ρ) fun d => wo (match d with
    | .tup ds => some ds
    | _ => none) R := by
  unfold tupI; cases δ ρ with
  | none => simp
  | some d => cases d <;> simp
@[simp] theorem rng1I_ev : wo (rng1I ε ρ) R ↔ wo (ε ρ) fun ds => wo (oneI ds) fun j => (-4611686018427387904 ≤ j ∧ j < 4611686018427387904) ∧ R (rngL 0 j) := by
  unfold rng1I; cases ε ρ with
  | none => simp
  | some ds =>
    match ds with
    | [] => simp [oneI]
    | [.int j] => simp only [wo_guard, wo_some, oneI_ev]; exact Iff.rfl
    | [.non] => simp [oneI]
    | [.bl _] => simp [oneI]
    | [.str _] => simp [oneI]
    | [.lst _] => simp [oneI]
    | [.tup _] => simp [oneI]
    | [.scr _] => simp [oneI]
    | [.ob _ _] => simp [oneI]
    | d :: e :: r => simp [oneI]
@[simp] theorem rng2I_ev : wo (rng2I ε ρ) R ↔ wo (ε ρ) fun ds => wo (twoI ds) fun p => ((-4611686018427387904 ≤ p.1 ∧ p.1 < 4611686018427387904) ∧ (-4611686018427387904 ≤ p.2 ∧ p.2 < 4611686018427387904)) ∧ R (rngL p.1 p.2) := by
  unfold rng2I; cases ε ρ with
  | none => simp
  | some ds =>
    by_cases h : ∃ i j, ds = [.int i, .int j]
    · obtain ⟨i, j, rfl⟩ := h
      simp only [wo_guard, wo_some, twoI_ev]
      exact Iff.rfl
    · have h1 : twoI ds = none := by
        unfold twoI
        split
        · exact absurd ⟨_, _, rfl⟩ h
        · rfl
      rw [wo_some, h1]
      simp only [wo_none, iff_false]
      intro hw
      split at hw
      · rename_i heq; cases heq; exact h ⟨_, _, rfl⟩
      · simp at hw
@[simp] theorem lcO_ev {vs : List Nat} {γ : DG} : wo (lcO vs ε γ τ δ ρ) R ↔ wo (ε ρ) fun ds => ds.length ≤ sizeLine ∧ wo (lcL γ τ δ (wipeD ρ vs) ds) R := by
  unfold lcO; cases ε ρ <;> simp
@[simp] theorem nmG_ev {d : D} : nmG i d ρ = some (ρ.set i (.sh d)) := rfl
@[simp] theorem nilG_ev : nilG [] ρ = some ρ := rfl
@[simp] theorem consG_ev {γ : DG} {γs : DGs} {d : D} {ds : List D} {E : Env → Prop} : wo (consG γ γs (d :: ds) ρ) E ↔ wo (γ d ρ) fun ρ1 => wo (γs ds ρ1) E := by
  unfold consG; cases h : γ d ρ <;> simp [h]
@[simp] theorem tupG_ev {n : Nat} {γs : DGs} {ds : List D} {E : Env → Prop} : wo (tupG n γs (.tup ds) ρ) E ↔ ds.length = n ∧ wo (γs ds ρ) E := by
  unfold tupG; simp
@[simp] theorem wipeD_nil : wipeD ρ [] = ρ := rfl
@[simp] theorem wipeD_cons {v : Nat} {vs : List Nat} : wipeD ρ (v :: vs) = (wipeD ρ vs).set v .no := rfl
end
theorem lc_map {γ : DG} {τ : DT} {δ : DE} {ρ : Env} {α : Type} (F : α → D) (G : α → D) : ∀ (xs : List α), (∀ x ∈ xs, wo (γ (F x) ρ) fun ρ1 => wo (τ ρ1) fun b => b = true ∧ wo (δ ρ1) fun y => y = G x) → lcL γ τ δ ρ (xs.map F) = some (xs.map G)
  | [], _ => rfl
  | x :: xs, h => by
    obtain ⟨ρ1, e1, b, e2, hb, y, e3, hy⟩ := h x List.mem_cons_self
    subst hb hy
    rw [List.map_cons, List.map_cons]
    unfold lcL
    simp only [e1, e2, e3, lc_map F G xs fun z hz => h z (List.mem_cons_of_mem _ hz)]
theorem lc_rel {γ : DG} {τ : DT} {δ : DE} {ρ : Env} {β : Type} (G : β → D) (P : D → β → Prop) : ∀ (ds : List D), (∀ x ∈ ds, wo (γ x ρ) fun ρ1 => wo (τ ρ1) fun b => b = true ∧ wo (δ ρ1) fun y => ∃ z, y = G z ∧ P x z) → ∃ zs : List β, lcL γ τ δ ρ ds = some (zs.map G) ∧ zs.length = ds.length ∧ ∀ z ∈ zs, ∃ x ∈ ds, P x z
  | [], _ => ⟨[], rfl, rfl, fun z h => by cases h⟩
  | x :: xs, h => by
    obtain ⟨ρ1, e1, b, e2, hb, y, e3, z, hy, hp⟩ := h x List.mem_cons_self
    subst hb hy
    obtain ⟨zs, ez, el, ep⟩ := lc_rel G P xs fun z hz => h z (List.mem_cons_of_mem _ hz)
    refine ⟨z :: zs, ?_, by simp [el], fun w hw => ?_⟩
    · rw [List.map_cons]
      unfold lcL
      simp only [e1, e2, e3, ez]
    · rcases List.mem_cons.mp hw with rfl | hw
      · exact ⟨x, List.mem_cons_self, hp⟩
      · obtain ⟨x', h1, h2⟩ := ep w hw
        exact ⟨x', List.mem_cons_of_mem _ h1, h2⟩
theorem lc_wo {γ : DG} {τ : DT} {δ : DE} {ρ : Env} {β : Type} (G : β → D) (P : D → β → Prop) {ds : List D} {R : List D → Prop} (h : ∀ x ∈ ds, wo (γ x ρ) fun ρ1 => wo (τ ρ1) fun b => b = true ∧ wo (δ ρ1) fun y => ∃ z, y = G z ∧ P x z) (q : ∀ zs : List β, zs.length = ds.length → (∀ z ∈ zs, ∃ x ∈ ds, P x z) → R (zs.map G)) : wo (lcL γ τ δ ρ ds) R :=
  let ⟨zs, e, l, p⟩ := lc_rel G P ds h
  ⟨_, e, q zs l p⟩
def CM (i j : Int) : Prop := i.natAbs.log2 + j.natAbs.log2 < 1000000
theorem log2_small {n : Nat} (h : n < 2 ^ 64) : n.log2 < 64 := by
  by_cases h0 : n = 0
  · subst h0; decide
  · exact (Nat.log2_lt h0).mpr h
theorem cm_of {i j : Int} (h1 : -18446744073709551616 < i ∧ i < 18446744073709551616) (h2 : -18446744073709551616 < j ∧ j < 18446744073709551616) : CM i j := by
  have := log2_small (n := i.natAbs) (by omega)
  have := log2_small (n := j.natAbs) (by omega)
  unfold CM
  omega
section
variable {i j : Int} {Q : D → Prop} {R : List D → Prop} {xs ys : List D} {h : Int → Int → Int} {c : Int → Int → Bool}
@[simp] theorem iI_ev : iI h (.int i) (.int j) = some (.int (h i j)) := rfl
@[simp] theorem iB_ev : iB c (.int i) (.int j) = some (.bl (c i j)) := rfl
@[simp] theorem dAdd_ev : dAdd (.int i) (.int j) = some (.int (i + j)) := rfl
@[simp] theorem dAdd_lst : wo (dAdd (.lst xs) (.lst ys)) Q ↔ xs.length + ys.length ≤ sizeLine ∧ Q (.lst (xs ++ ys)) := by simp [dAdd]
@[simp] theorem dAdd_tup : wo (dAdd (.tup xs) (.tup ys)) Q ↔ xs.length + ys.length ≤ sizeLine ∧ Q (.tup (xs ++ ys)) := by simp [dAdd]
@[simp] theorem dMul_ev : wo (dMul (.int i) (.int j)) Q ↔ CM i j ∧ Q (.int (i * j)) := by simp [dMul, CM]
@[simp] theorem dMul_lst : wo (dMul (.lst xs) (.int j)) Q ↔ (-(2 ^ 63) ≤ j ∧ j < 2 ^ 63 ∧ xs.length * j.toNat ≤ sizeLine) ∧ Q (.lst (List.replicate j.toNat xs).flatten) := by simp only [dMul, wo_guard, wo_some]
@[simp] theorem dMod_ev : wo (dMod (.int i) (.int j)) Q ↔ 0 < j ∧ Q (.int (i % j)) := by simp [dMod]
@[simp] theorem dDiv_ev : wo (dDiv (.int i) (.int j)) Q ↔ (0 < j ∧ j < 1073741824) ∧ Q (.int (i / j)) := by simp only [dDiv, wo_guard, wo_some]
@[simp] theorem dPow_ev : wo (dPow (.int i) (.int j)) Q ↔ (0 ≤ j ∧ j ≤ 1000000 ∧ i.natAbs < 2 ^ 64) ∧ Q (.int (i ^ j.toNat)) := by simp only [dPow, wo_guard, wo_some]
@[simp] theorem dNeg_ev : dNeg (.int i) = some (.int (-i)) := rfl
@[simp] theorem dEqD_ev : dEqD (.int i) (.int j) = some (.bl (decide (i = j))) := rfl
@[simp] theorem dNeD_ev : dNeD (.int i) (.int j) = some (.bl (!decide (i = j))) := rfl
@[simp] theorem dIx_lst : dIx (.lst xs) (.int i) = atI xs i := rfl
@[simp] theorem dIx_tup : dIx (.tup xs) (.int i) = atI xs i := rfl
@[simp] theorem dIx_scr {ns : List Int} : wo (dIx (.scr ns) (.int i)) Q ↔ wo (atI ns i) fun n => Q (.int n) := by
  show wo (match atI ns i with | some n => some (D.int n) | none => none) Q ↔ _
  cases atI ns i <;> simp
@[simp] theorem dLen_lst : dLen [.lst xs] = some (.int xs.length) := rfl
@[simp] theorem dLen_tup : dLen [.tup xs] = some (.int xs.length) := rfl
@[simp] theorem dLen_scr {ns : List Int} : dLen [.scr ns] = some (.int ns.length) := rfl
@[simp] theorem dTuple_lst : dTuple [.lst xs] = some (.tup xs) := rfl
@[simp] theorem dTuple_tup : dTuple [.tup xs] = some (.tup xs) := rfl
@[simp] theorem dInt_ev : dInt [.int i] = some (.int i) := rfl
@[simp] theorem dInt_bl {b : Bool} : dInt [.bl b] = some (.int (if b then 1 else 0)) := rfl
@[simp] theorem dMax2_ev : dMax2 [.int i, .int j] = some (.int (if j > i then j else i)) := rfl
@[simp] theorem dMin2_ev : dMin2 [.int i, .int j] = some (.int (if j < i then j else i)) := rfl
@[simp] theorem dCatO_ev : wo (dCatO (.lst xs) (.lst ys)) R ↔ xs.length + ys.length ≤ sizeLine ∧ R (xs ++ ys) := by simp [dCatO]
@[simp] theorem dRepO_ev : wo (dRepO (.lst xs) (.int j)) R ↔ (-(2 ^ 63) ≤ j ∧ j < 2 ^ 63 ∧ xs.length * j.toNat ≤ sizeLine) ∧ R (List.replicate j.toNat xs).flatten := by simp only [dRepO, wo_guard, wo_some]
theorem intsD_toD : ∀ ns : List Int, intsD (ns.map .int) = some ns
  | [] => rfl
  | n :: ns => by
    show (match intsD (ns.map .int) with | some is => some (n :: is) | none => none) = _
    rw [intsD_toD ns]
@[simp] theorem dSumA_lst {ns : List Int} : dSumA [.lst (ns.map .int)] = some (.int ns.sum) := by simp [dSumA, intsD_toD]
@[simp] theorem dSumA_tup {ns : List Int} : dSumA [.tup (ns.map .int)] = some (.int ns.sum) := by simp [dSumA, intsD_toD]
@[simp] theorem dSumA_two : dSumA [.tup [.int i, .int j]] = some (.int (i + j)) := by
  have := dSumA_tup (ns := [i, j])
  rw [List.map_cons, List.map_cons, List.map_nil] at this
  rw [this]; simp
theorem atI_nat {α : Type} {xs : List α} {k : Nat} (h : k < xs.length) : atI xs (k : Int) = xs[k]? := by
  unfold atI ixN
  rw [if_pos (by omega), if_pos (by omega)]
  rfl
theorem atI_in {α : Type} {xs : List α} {i : Int} (h0 : 0 ≤ i) (h : i.toNat < xs.length) : atI xs i = some xs[i.toNat] := by
  unfold atI ixN
  rw [if_pos (by omega), if_pos (by omega)]
  exact List.getElem?_eq_getElem h
theorem atI_int {xs : List Int} {k : Nat} {x : Int} (h : xs[k]? = some x) : atI (xs.map D.int) (k : Int) = some (.int x) := by
  have := (List.getElem?_eq_some_iff.mp h).1
  rw [atI_nat (by rw [List.length_map]; exact this), List.getElem?_map, h]
  rfl
theorem atI_val {α : Type} {F : α → D} {xs : List α} {i : Int} {x : α} (h0 : 0 ≤ i) (h : xs[i.toNat]? = some x) : atI (xs.map F) i = some (F x) := by
  have := (List.getElem?_eq_some_iff.mp h).1
  rw [atI_in h0 (by rw [List.length_map]; exact this), List.getElem_map]
  rw [List.getElem?_eq_getElem this] at h
  cases h
  rfl
section
variable {α : Type} {a b c d : α} {xs : List α}
@[simp] theorem atI_0 : atI (a :: xs) 0 = some a := by rw [atI_in (by decide) (by simp)]; rfl
@[simp] theorem atI_1 : atI (a :: b :: xs) 1 = some b := by rw [atI_in (by decide) (by simp)]; rfl
@[simp] theorem atI_2 : atI (a :: b :: c :: xs) 2 = some c := by rw [atI_in (by decide) (by simp)]; rfl
@[simp] theorem atI_3 : atI (a :: b :: c :: d :: xs) 3 = some d := by rw [atI_in (by decide) (by simp)]; rfl
end
def cutI {α : Type} (xs : List α) (a b : Nat) : List α := (xs.drop a).take (b - a)
theorem cut_ab {α : Type} {F : α → D} {xs : List α} {a b : Int} (h0 : 0 ≤ a) (h1 : 0 ≤ b) : cutD (xs.map F) (some a) (some b) = (cutI xs a.toNat b.toNat).map F := by
  obtain ⟨a, rfl⟩ := Int.eq_ofNat_of_zero_le h0
  obtain ⟨b, rfl⟩ := Int.eq_ofNat_of_zero_le h1
  unfold cutD cutI
  rw [HT.sIx_nat, HT.sIx_nat, List.length_map, Int.toNat_natCast, Int.toNat_natCast, List.map_take, List.map_drop]
  by_cases ha : a ≤ xs.length
  · rw [Nat.min_eq_left ha]
    by_cases hb : b ≤ xs.length
    · rw [Nat.min_eq_left hb]
    · rw [Nat.min_eq_right (by omega), List.take_of_length_le (by simp), List.take_of_length_le (by simp; omega)]
  · rw [List.drop_eq_nil_of_le (by simp; omega), List.drop_eq_nil_of_le (by simp; omega)]
    simp
theorem cut_b {α : Type} {F : α → D} {xs : List α} {b : Int} (h1 : 0 ≤ b) : cutD (xs.map F) none (some b) = (xs.take b.toNat).map F := by
  obtain ⟨b, rfl⟩ := Int.eq_ofNat_of_zero_le h1
  unfold cutD
  rw [HT.sIx_nat, HT.sIx_none, List.length_map, Int.toNat_natCast, List.map_take, Nat.sub_zero, List.drop_zero]
  by_cases hb : b ≤ xs.length
  · rw [Nat.min_eq_left hb]
  · rw [Nat.min_eq_right (by omega), List.take_of_length_le (by simp), List.take_of_length_le (by simp; omega)]
theorem cut_a {α : Type} {F : α → D} {xs : List α} {a : Int} (h1 : 0 ≤ a) : cutD (xs.map F) (some a) none = (xs.drop a.toNat).map F := by
  obtain ⟨a, rfl⟩ := Int.eq_ofNat_of_zero_le h1
  unfold cutD
  rw [HT.sIx_nat, HT.sIx_none, List.length_map, Int.toNat_natCast, List.map_drop]
  by_cases hb : a ≤ xs.length
  · rw [Nat.min_eq_left hb, List.take_of_length_le (by simp)]
  · rw [Nat.min_eq_right (by omega), Nat.sub_self, List.take_zero, List.drop_eq_nil_of_le (by simp; omega)]
theorem cutI_len {α : Type} {xs : List α} {a b : Nat} : (cutI xs a b).length ≤ b - a := by
  unfold cutI
  rw [List.length_take]
  omega
theorem cutI_mem {α : Type} {xs : List α} {a b : Nat} {z : α} (h : z ∈ cutI xs a b) : ∃ i, a ≤ i ∧ i < b ∧ xs[i]? = some z := by
  obtain ⟨k, hk⟩ := List.mem_iff_getElem?.mp h
  unfold cutI at hk
  rw [List.getElem?_take] at hk
  split at hk
  · rw [List.getElem?_drop] at hk
    exact ⟨a + k, by omega, by omega, hk⟩
  · cases hk
theorem ixN_in {n : Nat} {i : Int} (h0 : 0 ≤ i) (h : i < n) : ixN n i = some i.toNat := by
  unfold ixN
  rw [if_pos (by omega), if_pos (by omega)]
theorem at_map {α : Type} {F : α → D} {zs : List α} (h0 : 0 ≤ i) (h : i.toNat < zs.length) (q : ∀ z ∈ zs, zs[i.toNat]? = some z → Q (F z)) : wo (atI (zs.map F) i) Q :=
  ⟨F zs[i.toNat], by rw [atI_in h0 (by rw [List.length_map]; exact h), List.getElem_map], q _ (List.getElem_mem h) (List.getElem?_eq_getElem h)⟩
end
section
variable {ρ : Env} {i : Nat} {δ : DE} {ε : DA} {τ : DT} {A B : DS} {Q : Fl → Prop}
@[simp] theorem wp_seq : wp (seqS A B) ρ Q ↔ wp A ρ fun fl => match fl with
    | .nx r => wp B r Q
    | .rt d => Q (.rt d)
    | .bk r => Q (.bk r)
    | .ct r => Q (.ct r) := by
  unfold wp seqS
  cases h : A ρ with
  | none => simp
  | some fl => cases fl <;> simp
@[simp] theorem wp_next : wp nextS ρ Q ↔ Q (.nx ρ) := by unfold wp nextS; simp
@[simp] theorem wp_never : wp neverS ρ Q ↔ False := by unfold wp neverS; simp
@[simp] theorem wp_bk : wp bkS ρ Q ↔ Q (.bk ρ) := by unfold wp bkS; simp
@[simp] theorem wp_ct : wp ctS ρ Q ↔ Q (.ct ρ) := by unfold wp ctS; simp
@[simp] theorem wp_retN : wp retN ρ Q ↔ Q (.rt .non) := by unfold wp retN; simp
@[simp] theorem wp_ret : wp (retS δ) ρ Q ↔ wo (δ ρ) fun d => Q (.rt d) := by unfold wp retS; cases δ ρ <;> simp
@[simp] theorem wp_frz : wp (frzS i A) ρ Q ↔ wp A (frz i ρ) Q := Iff.rfl
@[simp] theorem wp_if : wp (ifS τ A B) ρ Q ↔ wo (τ ρ) fun b => (b = true → wp A ρ Q) ∧ (b = false → wp B ρ Q) := by
  unfold wp ifS; cases τ ρ with
  | none => simp
  | some b => cases b <;> simp
@[simp] theorem wp_drop : wp (dropS δ) ρ Q ↔ wo (δ ρ) fun _ => Q (.nx ρ) := by unfold wp dropS; cases δ ρ <;> simp
@[simp] theorem wp_set : wp (setS i δ) ρ Q ↔ wo (δ ρ) fun d => Q (.nx (ρ.set i (.sh d))) := by unfold wp setS; cases δ ρ <;> simp
@[simp] theorem wp_setO : wp (setO i ε) ρ Q ↔ wo (ε ρ) fun ds => i < ρ.length ∧ Q (.nx (ρ.set i (.ow ds))) := by
  unfold wp setO; cases ε ρ with
  | none => simp
  | some ds => by_cases h : i < ρ.length <;> simp [h]
@[simp] theorem wp_asg {γ : DG} : wp (asgS δ γ) ρ Q ↔ wo (δ ρ) fun d => wo (γ d ρ) fun r => Q (.nx r) := by
  unfold wp asgS; cases δ ρ with
  | none => simp
  | some d => cases h : γ d ρ <;> simp [h]
@[simp] theorem wp_mut {f : List D → List D → Option (List D)} : wp (mutS i f ε) ρ Q ↔ wo (owAt ρ i) fun ds => wo (ε ρ) fun as => wo (f ds as) fun ds' => Q (.nx (ρ.set i (.ow ds'))) := by
  unfold wp mutS owAt; cases ρ[i]? with
  | none => simp
  | some x => cases x with
    | ow ds => cases ε ρ with
      | none => simp
      | some as => cases h : f ds as <;> simp [h]
    | _ => simp
@[simp] theorem wp_st {δi : DE} : wp (stS i δi δ) ρ Q ↔ wo (δ ρ) fun d => wo (owAt ρ i) fun ds => wo (δi ρ) fun k => wo (asI k) fun k => wo (ixN ds.length k) fun j => Q (.nx (ρ.set i (.ow (ds.set j d)))) := by
  unfold wp stS owAt
  cases δ ρ with
  | none => simp
  | some d => cases ρ[i]? with
    | none => simp
    | some x => cases x with
      | ow ds => cases δi ρ with
        | none => simp
        | some k => cases k with
          | int k => cases h : ixN ds.length k <;> simp [h]
          | _ => simp [asI]
      | _ => simp
@[simp] theorem wp_augix {δi : DE} {f : Int → Int → Int} : wp (augixS i f δi δ) ρ Q ↔ wo (owAt ρ i) fun ds => wo (δi ρ) fun k => wo (asI k) fun k => wo (ixN ds.length k) fun j => wo ds[j]? fun a => wo (asI a) fun a => wo (δ ρ) fun b => wo (asI b) fun b => Q (.nx (ρ.set i (.ow (ds.set j (.int (f a b)))))) := by
  unfold wp augixS owAt
  cases ρ[i]? with
  | none => simp
  | some x => cases x with
    | ow ds => cases δi ρ with
      | none => simp
      | some k => cases k with
        | int k => cases h : ixN ds.length k with
          | none => simp [h]
          | some j => cases h2 : ds[j]? with
            | none => simp [h, h2]
            | some a => cases a with
              | int a => cases δ ρ with
                | none => simp [h, h2]
                | some b => cases b <;> simp [h, h2, asI]
              | _ => simp [h, h2, asI]
        | _ => simp [asI]
    | _ => simp
@[simp] theorem wp_aug {f : Int → Int → Int} : wp (augS i f δ) ρ Q ↔ wo (shAt ρ i) fun a => wo (asI a) fun a => wo (δ ρ) fun b => wo (asI b) fun b => Q (.nx (ρ.set i (.sh (.int (f a b))))) := by
  unfold wp augS shAt
  cases ρ[i]? with
  | none => simp
  | some x => cases x with
    | sh a => cases a with
      | int a => cases δ ρ with
        | none => simp
        | some b => cases b <;> simp [asI]
      | _ => simp [asI]
    | _ => simp
@[simp] theorem dApp_ev {ds : List D} {d : D} {R : List D → Prop} : wo (dApp ds [d]) R ↔ ds.length < sizeLine ∧ R (ds ++ [d]) := by simp [dApp]
@[simp] theorem dExt_ev {ds es : List D} {R : List D → Prop} : wo (dExt ds [.lst es]) R ↔ ds.length + es.length ≤ sizeLine ∧ R (ds ++ es) := by simp [dExt]
theorem wp_for (I : Nat → Env → Prop) {δi : DA} {γ : DG} (h : wo (δi ρ) fun ds => I 0 ρ ∧ (∀ (k : Nat) (r : Env) (d : D), ds[k]? = some d → I k r → wo (γ d r) fun r1 => wp A r1 fun fl => match fl with
      | .nx r => I (k + 1) r
      | .ct r => I (k + 1) r
      | .bk r => Q (.nx r)
      | .rt z => Q (.rt z)) ∧ ∀ r, I ds.length r → Q (.nx r)) : wp (forS δi γ A) ρ Q := by
  obtain ⟨ds, e, h0, hs, he⟩ := h
  have main : ∀ (n k : Nat) (r : Env), ds.length - k = n → k ≤ ds.length → I k r → ∃ fl, forL γ A (ds.drop k) r = some fl ∧ Q fl := by
    intro n
    induction n with
    | zero =>
      intro k r hk hl hI
      have : k = ds.length := by omega
      subst this
      rw [List.drop_length]
      exact ⟨_, rfl, he r hI⟩
    | succ n ih =>
      intro k r hk hl hI
      have hlt : k < ds.length := by omega
      rw [List.drop_eq_getElem_cons hlt]
      obtain ⟨r1, e1, fl, e2, q⟩ := hs k r ds[k] (List.getElem?_eq_getElem hlt) hI
      unfold forL
      simp only [e1, e2]
      cases fl with
      | nx r2 => exact ih (k + 1) r2 (by omega) (by omega) q
      | ct r2 => exact ih (k + 1) r2 (by omega) (by omega) q
      | bk r2 => exact ⟨_, rfl, q⟩
      | rt z => exact ⟨_, rfl, q⟩
  obtain ⟨fl, e3, q⟩ := main _ 0 ρ rfl (Nat.zero_le _) h0
  rw [List.drop_zero] at e3
  exact ⟨fl, by unfold forS; simp only [e, e3], q⟩
end
theorem wp_loop {ρ : Env} {A : DS} {Q : Fl → Prop} {δi : DA} {γ : DG} (ds : List D) (I : Nat → Env → Prop) (h : wo (δi ρ) fun x => x = ds) (h0 : I 0 ρ)
    (hs : ∀ (k : Nat) (d : D) (r : Env), ds[k]? = some d → I k r → wo (γ d r) fun r1 => wp A r1 fun fl => match fl with
      | .nx r => I (k + 1) r
      | .ct r => I (k + 1) r
      | .bk r => Q (.nx r)
      | .rt z => Q (.rt z)) (he : ∀ r, I ds.length r → Q (.nx r)) : wp (forS δi γ A) ρ Q :=
  wp_for I (h.mono fun x e => by subst e; exact ⟨h0, fun k r d hd hi => hs k d r hd hi, he⟩)
theorem wp_cut {ρ : Env} {A B : DS} {Q : Fl → Prop} (M : Env → Prop) (h1 : wp A ρ fun fl => ∃ r, fl = .nx r ∧ M r) (h2 : ∀ r, M r → wp B r Q) : wp (seqS A B) ρ Q := by
  obtain ⟨fl, e, r, rfl, m⟩ := h1
  rw [wp_seq]
  exact ⟨_, e, h2 r m⟩
theorem rng_mem {lo hi : Int} {d : D} (h : d ∈ rngL lo hi) : ∃ j : Int, d = .int j ∧ lo ≤ j ∧ j < hi := by
  obtain ⟨k, hk⟩ := List.mem_iff_getElem?.mp h
  have hl := (List.getElem?_eq_some_iff.mp hk).1
  rw [rngL_len] at hl
  exact ⟨_, rngL_get hk, by omega, by omega⟩
@[simp] theorem frz_sh {i : Nat} {ρ : Env} {ds : List D} (h : ρ[i]? = some (.ow ds)) : frz i ρ = ρ.set i (.sh (.lst ds)) := by unfold frz; rw [h]
theorem fnD_of {n : Nat} {δ : DS} {ds : List D} {P : D → Prop} (h : wp δ (startD n ds) fun fl => match fl with
    | .rt d => P d
    | .nx _ => P .non
    | _ => False) : wo (fnD n δ ds) P := by
  obtain ⟨fl, e, q⟩ := h
  unfold fnD
  rw [e]
  cases fl with
  | rt d => exact ⟨d, rfl, q⟩
  | nx r => exact ⟨.non, rfl, q⟩
  | bk r => exact q.elim
  | ct r => exact q.elim
theorem rng_get {lo hi : Int} {k : Nat} {d : D} (h : (rngL lo hi)[k]? = some d) : d = .int (lo + k) ∧ lo + k < hi := by
  refine ⟨rngL_get h, ?_⟩
  have := (List.getElem?_eq_some_iff.mp h).1
  rw [rngL_len] at this
  omega
@[simp] theorem rngL_length {lo hi : Int} : (rngL lo hi).length = (hi - lo).toNat := rngL_len lo hi
@[simp] theorem startD_ev {n : Nat} {ds : List D} : startD n ds = ds.map .sh ++ List.replicate (n - ds.length) .no := rfl
theorem lc_nest {γ : DG} {τ : DT} {δ : DA} {ρ : Env} {α : Type} (F : α → D) (G : α → List D) : ∀ (xs : List α), (∀ x ∈ xs, wo (γ (F x) ρ) fun ρ1 => wo (τ ρ1) fun b => b = true ∧ wo (δ ρ1) fun y => y = G x) → lcLN γ τ δ ρ (xs.map F) = some (xs.map G)
  | [], _ => rfl
  | x :: xs, h => by
    obtain ⟨ρ1, e1, b, e2, hb, y, e3, hy⟩ := h x List.mem_cons_self
    subst hb hy
    rw [List.map_cons, List.map_cons]
    unfold lcLN
    simp only [e1, e2, e3, lc_nest F G xs fun z hz => h z (List.mem_cons_of_mem _ hz)]
@[simp] theorem wp_setN {i : Nat} {vs : List Nat} {δi : DA} {γ : DG} {δt : DT} {δ : DA} {ρ : Env} {Q : Fl → Prop} : wp (setN i vs δi γ δt δ) ρ Q ↔ wo (δi ρ) fun ds => (ds.length ≤ sizeLine ∧ i < ρ.length) ∧ wo (lcLN γ δt δ (wipeD ρ vs) ds) fun dss => Q (.nx (ρ.set i (.nw dss))) := by
  unfold wp setN
  cases δi ρ with
  | none => simp
  | some ds =>
    by_cases h : ds.length ≤ sizeLine ∧ i < ρ.length
    · simp only [if_pos h, wo_some, h, true_and]
      cases lcLN γ δt δ (wipeD ρ vs) ds <;> simp [h]
    · simp only [if_neg h, wo_some, h, false_and]
      simp
def two : List D → Option (Int × Int)
  | [.int y, .int z] => some (y, z)
  | _ => none
@[simp] theorem two_ev {y z : Int} : two [.int y, .int z] = some (y, z) := rfl
@[simp] theorem seqD_lst {ds : List D} : seqD (.lst ds) = some ds := rfl
@[simp] theorem seqD_tup {ds : List D} : seqD (.tup ds) = some ds := rfl
@[simp] theorem dIns_ev {ds : List D} {i : Int} {d : D} {R : List D → Prop} : wo (dIns ds [.int i, d]) R ↔ (ds.length < sizeLine ∧ 0 ≤ i ∧ i < 9223372036854775808) ∧ R (ds.take i.toNat ++ [d] ++ ds.drop i.toNat) := by
  show wo (if ds.length < sizeLine ∧ 0 ≤ i ∧ i < 2 ^ 63 then some _ else none) R ↔ _
  rw [wo_guard, wo_some]
  exact Iff.rfl
theorem wp_ins {t l : Nat} {n : Int} {δi : DE} {δs : DA} {ρ : Env} {Q : Fl → Prop} (h : wo (nwAt ρ t) fun dss => (l < ρ.length ∧ t ≠ l) ∧ wo (δi ρ) fun k => wo (asI k) fun k => wo (ixN dss.length k) fun j => wo dss[j]? fun ds =>
    ((ds.length : Int) < n → wo (δs ((ρ.set t .no).set l (.sh (.lst ds)))) fun ys => wo (two ys) fun p => wo (dIns ds [.int p.1, .int p.2]) fun ds' => Q (.nx ((ρ.set l .no).set t (.nw (dss.set j ds'))))) ∧ (¬ (ds.length : Int) < n → Q (.nx (ρ.set l .no)))) : wp (insS t l n δi δs) ρ Q := by
  obtain ⟨dss, e0, hl, k, e1, k', e2, j, e3, ds, e4, h1, h2⟩ := h
  unfold nwAt at e0
  split at e0
  · rename_i dss' e5
    cases e0
    cases k with
    | int kk =>
      cases e2
      unfold wp insS
      simp only [e5, if_pos hl, e1, e3, e4]
      by_cases hn : (ds.length : Int) < n
      · obtain ⟨ys, f1, p, f2, ds', f3, q⟩ := h1 hn
        have : ys = [.int p.1, .int p.2] := by
          unfold two at f2
          split at f2
          · cases f2; rfl
          · cases f2
        subst this
        simp only [if_pos hn, f1, f3]
        exact ⟨_, rfl, q⟩
      · simp only [if_neg hn]
        exact ⟨_, rfl, h2 hn⟩
    | _ => cases e2
  · cases e0
@[simp] theorem wp_nap {i : Nat} {f : List D → List D → Option (List D)} {δi : DE} {δs : DA} {ρ : Env} {Q : Fl → Prop} : wp (napS i f δi δs) ρ Q ↔ wo (nwAt ρ i) fun dss => wo (δi ρ) fun k => wo (asI k) fun k => wo (ixN dss.length k) fun j => wo dss[j]? fun ds => wo (δs ρ) fun as => wo (f ds as) fun ds' => Q (.nx (ρ.set i (.nw (dss.set j ds')))) := by
  unfold wp napS nwAt
  cases ρ[i]? with
  | none => simp
  | some x => cases x with
    | nw dss => cases δi ρ with
      | none => simp
      | some k => cases k with
        | int k => cases h1 : ixN dss.length k with
          | none => simp [h1]
          | some j => cases h2 : dss[j]? with
            | none => simp [h1, h2]
            | some ds => cases δs ρ with
              | none => simp [h1, h2]
              | some as => cases h3 : f ds as <;> simp [h1, h2, h3]
        | _ => simp [asI]
    | _ => simp
@[simp] theorem wp_nxa {i : Nat} {δs : DA} {ρ : Env} {Q : Fl → Prop} : wp (nxaS i δs) ρ Q ↔ wo (nwAt ρ i) fun dss => wo (δs ρ) fun ds => dss.length < sizeLine ∧ Q (.nx (ρ.set i (.nw (dss ++ [ds])))) := by
  unfold wp nxaS nwAt
  cases ρ[i]? with
  | none => simp
  | some x => cases x with
    | nw dss => cases δs ρ with
      | none => simp
      | some ds => by_cases h : dss.length < sizeLine <;> simp [h]
    | _ => simp
@[simp] theorem wp_fld {i : Nat} {c f : Str} {δ : DE} {ρ : Env} {Q : Fl → Prop} : wp (fldS i c f δ) ρ Q ↔ wo (δ ρ) fun d => wo (ooAt ρ i) fun p => (p.2.2.1 = c ∧ p.2.2.2.length < 1000) ∧ Q (.nx (ρ.set i (.oo p.1 p.2.1 c (putD f d p.2.2.2)))) := by
  unfold wp fldS ooAt
  cases δ ρ with
  | none => simp
  | some d => cases ρ[i]? with
    | none => simp
    | some x => cases x with
      | oo x dx c' fs => by_cases h : c' = c ∧ fs.length < 1000
                         · simp [h]
                         · simp [h]
      | _ => simp
@[simp] theorem sizeLine_ev : sizeLine = 16777216 := rfl
end DL
namespace DL
open PySem L2
def df_front : List D := [.int 0]
def df_count_front : List D := [.int 0]
def d_is_whole : List D → Option D := fnD 1
    (retS (andE (isD "int" (vV 0)) (notE (isD "bool" (vV 0)))))
def b_continued_2 : DS :=
    (mutS 2 dApp (consA (tupE (consA (addE (vV 3) (tupE (consA (vE 5) (nilA)))) (consA (ixE (ixE (vV 0) (vV 4)) (vV 5)) (nilA)))) (nilA)))
def b_continued_1 : DS :=
    (ifS (tE (ltE (vV 4) (kE (.int 0))))
        (mutS 2 dApp (consA (tupE (consA (vE 3) (consA (vE 4) (nilA)))) (nilA)))
        (forS (rng1I (consA (call1 dLen (consA (ixE (vV 0) (vV 4)) (nilA))) (nilA))) (nmG 5) (b_continued_2)))
def d_continued : List D → Option D := fnD 6
    (seqS (setO 2 (lstO (nilA)))
    (seqS (forS (lstI (vE 1)) (tupG 2 (consG (nmG 3) (consG (nmG 4) (nilG)))) (b_continued_1))
    (frzS 2 (retS (vE 2)))))
def c_front_1 : DE :=
    (vE 5)
def b_front_1 : DS :=
    (setS 3 (call1 d_continued (consA (fldE "Book" "kinds" (vE 0)) (consA (vE 3) (nilA)))))
def d_front : List D → Option D := fnD 7
    (seqS (setS 3 (oE (lstO (consA (tupE (consA (tupE (nilA)) (consA (vE 2) (nilA)))) (nilA)))))
    (seqS (forS (rng1I (consA (vV 1) (nilA))) (nmG 4) (b_front_1))
    (retS (call1 dTuple (consA (oE (lcO [5, 6] (lstI (vE 3)) (tupG 2 (consG (nmG 5) (consG (nmG 6) (nilG)))) (yesT) (c_front_1))) (nilA))))))
def b_next_counts_2 : DS :=
    (ifS (tE (geE (vV 5) (kE (.int 0))))
            (augixS 2 (fun i j => i + j) (vV 5) (ixE (vV 1) (vV 4)))
            (augixS 3 (fun i j => i + j) (subE (negE (kE (.int 1))) (vV 5)) (ixE (vV 1) (vV 4))))
def b_next_counts_1 : DS :=
    (ifS (tE (gtE (ixE (vV 1) (vV 4)) (kE (.int 0))))
        (forS (tupI (ixE (vV 0) (vV 4))) (nmG 5) (b_next_counts_2))
        (nextS))
def d_next_counts : List D → Option D := fnD 6
    (seqS (setO 2 (repO (oE (lstO (consA (kE (.int 0)) (nilA)))) (call1 dLen (consA (vV 0) (nilA)))))
    (seqS (setO 3 (lstO (consA (kE (.int 0)) (consA (kE (.int 0)) (consA (kE (.int 0)) (nilA))))))
    (seqS (forS (rng1I (consA (call1 dLen (consA (vV 0) (nilA))) (nilA))) (nmG 4) (b_next_counts_1))
    (frzS 3 (frzS 2 (retS (tupE (consA (vE 2) (consA (vE 3) (nilA))))))))))
def c_count_front_1 : DE :=
    (addE (ixE (vV 4) (vV 7)) (ixE (vV 6) (vV 7)))
def b_count_front_1 : DS :=
    (seqS (frzS 3 (asgS (call1 d_next_counts (consA (fldE "Book" "kinds" (vE 0)) (consA (vE 3) (nilA)))) (tupG 2 (consG (nmG 3) (consG (nmG 6) (nilG))))))
      (setS 4 (oE (lcO [7] (rng1I (consA (kE (.int 3)) (nilA))) (nmG 7) (yesT) (c_count_front_1)))))
def d_count_front : List D → Option D := fnD 8
    (seqS (setO 3 (repO (oE (lstO (consA (kE (.int 0)) (nilA)))) (call1 dLen (consA (fldE "Book" "kinds" (vE 0)) (nilA)))))
    (seqS (stS 3 (vV 2) (kE (.int 1)))
    (seqS (setS 4 (oE (lstO (consA (kE (.int 0)) (consA (kE (.int 0)) (consA (kE (.int 0)) (nilA)))))))
    (seqS (forS (rng1I (consA (vV 1) (nilA))) (nmG 5) (b_count_front_1))
    (retS (tupE (consA (call1 dSumA (consA (vV 3) (nilA))) (consA (ixE (vV 4) (kE (.int 0))) (consA (ixE (vV 4) (kE (.int 1))) (consA (ixE (vV 4) (kE (.int 2))) (nilA)))))))))))
def d_is_target : List D → Option D := fnD 2
    (retS (andE (call1 d_is_whole (consA (vE 0) (nilA))) (ch3 (iB fun i j => decide (i ≤ j)) (iB fun i j => decide (i < j)) (negE (kE (.int 3))) (vV 0) (vV 1))))
def c_moved_kinds_2 : DE :=
    (ifE (tE (geE (vV 3) (kE (.int 0)))) (addE (vV 3) (vV 1)) (vE 3))
def c_moved_kinds_1 : DE :=
    (call1 dTuple (consA (oE (lcO [3] (tupI (vE 2)) (nmG 3) (yesT) (c_moved_kinds_2))) (nilA)))
def d_moved_kinds : List D → Option D := fnD 4
    (retS (call1 dTuple (consA (oE (lcO [2] (tupI (vE 0)) (nmG 2) (yesT) (c_moved_kinds_1))) (nilA))))
def b_Book_init_2 : DS :=
    (ifS (notT (tE (call1 d_is_target (consA (ixE (ixE (vV 2) (vV 3)) (vV 4)) (consA (call1 dLen (consA (vV 2) (nilA))) (nilA))))))
          (neverS)
          (nextS))
def b_Book_init_1 : DS :=
    (forS (rng1I (consA (call1 dLen (consA (ixE (vV 2) (vV 3)) (nilA))) (nilA))) (nmG 4) (b_Book_init_2))
def e_Book_init : DS :=
    (seqS (setS 2 (frzE 3 (consA (bE 1) nilA)))
    (seqS (ifS (tE (eqE (call1 dLen (consA (vV 2) (nilA))) (kE (.int 0))))
      (neverS)
      (nextS))
    (seqS (forS (rng1I (consA (call1 dLen (consA (vV 2) (nilA))) (nilA))) (nmG 3) (b_Book_init_1))
    (fldS 0 "Book" "kinds" (vE 2)))))
def okTarget (many : Nat) : D → Bool
  | .int t => decide (-3 ≤ t ∧ t < many)
  | _ => false
def okKind (many : Nat) : D → Bool
  | .tup ts => ts.all (okTarget many) && decide ((ts.length : Int) < 2 ^ 62)
  | _ => false
def i_Book : List D → Option (List (Str × D)) := fun ds => match ds with
  | [d] => match frzD 3 d with
    | some (.tup ks) => if ks.length ≠ 0 ∧ (ks.length : Int) < 2 ^ 62 ∧ ks.all (okKind ks.length) = true then some [("kinds", .tup ks)] else none
    | _ => none
  | _ => none
def d_Book_add : List D → Option D := fnD 4
    (seqS (setS 2 (addE (kE (.int 1)) (call1 dLen (consA (fldE "Book" "kinds" (vE 0)) (nilA)))))
    (seqS (setS 3 (tupE (consA (kE (.int 1)) (consA (vE 2) (nilA)))))
    (retS (mkE "Book" i_Book (consA (addE (addE (tupE (consA (vE 3) (nilA))) (call1 d_moved_kinds (consA (fldE "Book" "kinds" (vE 0)) (consA (kE (.int 1)) (nilA))))) (call1 d_moved_kinds (consA (fldE "Book" "kinds" (vE 1)) (consA (vE 2) (nilA))))) (nilA))))))
def d_law_whole : List D → Option D := fnD 1
    (retS (andE (isD "int" (vV 0)) (notE (isD "bool" (vV 0)))))
def b_law_cell_1 : DS :=
    (setS 2 (modE (call1 dInt (consA (addE (mulE (vV 2) (kE (.int 31))) (modE (call1 dInt (consA (vV 3) (nilA))) (kE (.int 1000003)))) (nilA))) (kE (.int 1000003))))
def d_law_cell : List D → Option D := fnD 4
    (seqS (ifS (tE (ltE (vV 1) (call1 dLen (consA (vV 0) (nilA)))))
      (retS (ixE (vV 0) (vV 1)))
      (nextS))
    (seqS (setS 2 (kE (.int 17)))
    (seqS (forS (lstI (vE 0)) (nmG 3) (b_law_cell_1))
    (retS (modE (call1 dInt (consA (mulE (mulE (addE (vV 2) (kE (.int 7))) (addE (vV 1) (kE (.int 3)))) (kE (.int 69621))) (nilA))) (kE (.int 2147483647)))))))
def b_law_digits_1 : DS :=
    (seqS (setS 3 (modE (call1 dInt (consA (addE (addE (mulE (vV 3) (kE (.int 48271))) (mulE (kE (.int 974711)) (vV 5))) (kE (.int 12345))) (nilA))) (kE (.int 2147483647))))
      (seqS (setS 6 (modE (call1 dInt (consA (mulE (vV 3) (addE (divE (vV 3) (kE (.int 65537))) (kE (.int 3)))) (nilA))) (kE (.int 2147483629))))
      (ifS (tE (gtE (vV 4) (kE (.int 0))))
        (seqS (mutS 2 dApp (consA (modE (call1 dInt (consA (vV 4) (nilA))) (ixE (vV 1) (vV 5))) (nilA)))
        (setS 4 (divE (call1 dInt (consA (vV 4) (nilA))) (ixE (vV 1) (vV 5)))))
        (mutS 2 dApp (consA (modE (divE (vV 6) (kE (.int 19))) (ixE (vV 1) (vV 5))) (nilA))))))
def d_law_digits : List D → Option D := fnD 7
    (seqS (setO 2 (lstO (nilA)))
    (seqS (setS 3 (modE (call1 dInt (consA (vV 0) (nilA))) (kE (.int 2147483629))))
    (seqS (setS 4 (call1 dMax2 (consA (kE (.int 0)) (consA (subE (call1 dInt (consA (vV 0) (nilA))) (powE (kE (.int 10)) (kE (.int 18)))) (nilA)))))
    (seqS (forS (rng1I (consA (call1 dLen (consA (vV 1) (nilA))) (nilA))) (nmG 5) (b_law_digits_1))
    (frzS 2 (retS (vE 2)))))))
def d_law_book_sizes : List D → Option D := fnD 2
    (retS (addE (addE (oE (lstO (consA (mulE (kE (.int 3)) (vV 0)) (nilA)))) (mulE (oE (lstO (consA (addE (mulE (kE (.int 2)) (vV 1)) (kE (.int 2))) (nilA)))) (vV 0))) (mulE (oE (lstO (consA (mulE (kE (.int 8)) (addE (vV 0) (kE (.int 3)))) (nilA)))) (mulE (vV 0) (vV 1)))))
def d_law_target : List D → Option D := fnD 6
    (seqS (setS 4 (modE (call1 dInt (consA (vV 0) (nilA))) (addE (vV 2) (kE (.int 3)))))
    (seqS (setS 5 (modE (divE (call1 dInt (consA (vV 0) (nilA))) (addE (vV 2) (kE (.int 3)))) (kE (.int 8))))
    (seqS (ifS (tE (eqE (vV 5) (kE (.int 0))))
      (retS (subE (vV 4) (kE (.int 3))))
      (nextS))
    (seqS (ifS (tE (gtE (vV 5) (kE (.int 5))))
      (retS (addE (vV 1) (modE (call1 dInt (consA (vV 4) (nilA))) (subE (vV 2) (vV 1)))))
      (nextS))
    (seqS (ifS (andT (tE (eqE (vV 3) (kE (.int 0)))) (andT (tE (ltE (vV 5) (kE (.int 4)))) (orT (tE (gtE (vV 1) (kE (.int 0)))) (tE (eqE (modE (call1 dInt (consA (vV 4) (nilA))) (kE (.int 2))) (kE (.int 0)))))))
      (retS (vE 1))
      (nextS))
    (seqS (ifS (tE (eqE (vV 3) (kE (.int 0))))
      (retS (call1 dMin2 (consA (subE (vV 2) (kE (.int 1))) (consA (addE (vV 1) (kE (.int 1))) (nilA)))))
      (nextS))
    (seqS (ifS (tE (eqE (vV 5) (kE (.int 5))))
      (retS (vE 1))
      (nextS))
    (seqS (ifS (andT (tE (eqE (vV 5) (kE (.int 1)))) (tE (ltE (vV 4) (kE (.int 3)))))
      (retS (ixE (oE (lstO (consA (negE (kE (.int 2))) (consA (negE (kE (.int 1))) (consA (negE (kE (.int 3))) (nilA)))))) (vV 4)))
      (nextS))
    (seqS (ifS (tE (ltE (vV 1) (subE (vV 2) (kE (.int 1)))))
      (retS (addE (addE (vV 1) (kE (.int 1))) (modE (call1 dInt (consA (vV 4) (nilA))) (subE (subE (vV 2) (vV 1)) (kE (.int 1))))))
      (nextS))
    (retS (ixE (oE (lstO (consA (vE 1) (consA (negE (kE (.int 2))) (consA (vE 1) (consA (negE (kE (.int 1))) (consA (negE (kE (.int 2))) (nilA)))))))) (modE (call1 dInt (consA (vV 4) (nilA))) (kE (.int 5))))))))))))))
def c_law_book_1 : DE :=
    (call1 d_law_target (consA (ixE (vV 0) (addE (addE (addE (kE (.int 1)) (vV 1)) (mulE (vV 5) (vV 2))) (vV 7))) (consA (vE 5) (consA (vE 3) (consA (vE 7) (nilA))))))
def b_law_book_1 : DS :=
    (seqS (setS 6 (ixE (vV 0) (addE (kE (.int 1)) (vV 5))))
      (seqS (ifS (tE (gtE (vV 6) (vV 2)))
        (setS 6 (subE (vV 6) (vV 2)))
        (nextS))
      (seqS (ifS (tE (gtE (vV 6) (vV 2)))
        (setS 6 (kE (.int 2)))
        (nextS))
      (mutS 4 dApp (consA (call1 dTuple (consA (oE (lcO [7] (rng1I (consA (vV 6) (nilA))) (nmG 7) (yesT) (c_law_book_1))) (nilA))) (nilA))))))
def d_law_book : List D → Option D := fnD 8
    (seqS (setS 3 (addE (kE (.int 1)) (ixE (vV 0) (kE (.int 0)))))
    (seqS (ifS (tE (geE (ixE (vV 0) (kE (.int 0))) (vV 1)))
      (setS 3 (addE (kE (.int 2)) (modE (call1 dInt (consA (ixE (vV 0) (kE (.int 0))) (nilA))) (subE (vV 1) (kE (.int 1))))))
      (nextS))
    (seqS (setO 4 (lstO (nilA)))
    (seqS (forS (rng1I (consA (vV 3) (nilA))) (nmG 5) (b_law_book_1))
    (retS (call1 dTuple (consA (vV 4) (nilA))))))))
def d_law_row_sizes : List D → Option D := fnD 0
    (retS (addE (oE (lstO (consA (kE (.int 12)) (consA (kE (.int 4)) (consA (kE (.int 12)) (nilA)))))) (mulE (addE (oE (lstO (consA (kE (.int 26)) (consA (kE (.int 20)) (nilA))))) (mulE (oE (lstO (consA (kE (.int 3)) (nilA)))) (kE (.int 19)))) (kE (.int 12)))))
def c_law_row_1 : DE :=
    (subE (negE (kE (.int 1))) (vV 8))
def b_law_row_1 : DS :=
    (seqS (setS 4 (addE (kE (.int 3)) (mulE (kE (.int 21)) (vV 3))))
      (seqS (setS 5 (oE (lcO [8] (lstI (slE (vV 0) (someP (addE (vV 4) (kE (.int 2)))) (someP (addE (addE (vV 4) (kE (.int 2))) (call1 dMin2 (consA (kE (.int 19)) (consA (ixE (vV 0) (vV 4)) (nilA)))))))) (nmG 8) (yesT) (c_law_row_1))))
      (seqS (setS 6 (modE (call1 dInt (consA (ixE (vV 0) (addE (vV 4) (kE (.int 1)))) (nilA))) (addE (call1 dLen (consA (vV 5) (nilA))) (kE (.int 1)))))
      (seqS (setS 7 (oE (lstO (consA (addE (vV 3) (kE (.int 1))) (nilA)))))
      (seqS (ifS (tE (eqE (vV 3) (subE (vV 1) (kE (.int 1)))))
        (setS 7 (mulE (oE (lstO (consA (modE (call1 dInt (consA (ixE (vV 0) (kE (.int 2))) (nilA))) (vV 1)) (nilA)))) (call1 dInt (consA (gtE (ixE (vV 0) (kE (.int 1))) (kE (.int 0))) (nilA)))))
        (nextS))
      (mutS 2 dApp (consA (call1 dTuple (consA (addE (addE (slE (vV 5) noP (someP (vV 6))) (vV 7)) (slE (vV 5) (someP (vV 6)) noP)) (nilA))) (nilA))))))))
def d_law_row : List D → Option D := fnD 9
    (seqS (setS 1 (addE (kE (.int 1)) (ixE (vV 0) (kE (.int 0)))))
    (seqS (setO 2 (lstO (nilA)))
    (seqS (forS (rng1I (consA (vV 1) (nilA))) (nmG 3) (b_law_row_1))
    (retS (call1 dTuple (consA (vV 2) (nilA)))))))
def c_law_branched_2 : DE :=
    (call1 dTuple (consA (vV 6) (nilA)))
def b_law_branched_1 : DS :=
    (insS 3 6 20 (modE (call1 dInt (consA (ixE (vV 1) (mulE (kE (.int 3)) (vV 5))) (nilA))) (vV 4)) (consA (modE (call1 dInt (consA (ixE (vV 1) (addE (mulE (kE (.int 3)) (vV 5)) (kE (.int 2)))) (nilA))) (addE (call1 dLen (consA (vV 6) (nilA))) (kE (.int 1)))) (consA (modE (call1 dInt (consA (ixE (vV 1) (addE (mulE (kE (.int 3)) (vV 5)) (kE (.int 1)))) (nilA))) (vV 4)) (nilA))))
def c_law_branched_1 : DA :=
    (listO (consA (vV 7) (nilA)))
def d_law_branched : List D → Option D := fnD 8
    (seqS (setN 3 [7] (tupI (vE 0)) (nmG 7) (yesT) (c_law_branched_1))
    (seqS (setS 4 (lnE 3))
    (seqS (forS (rng1I (consA (vV 2) (nilA))) (nmG 5) (b_law_branched_1))
    (frzS 3 (retS (call1 dTuple (consA (oE (lcO [6] (lstI (vE 3)) (nmG 6) (yesT) (c_law_branched_2))) (nilA))))))))
def c_law_bushy_2 : DE :=
    (subE (negE (kE (.int 1))) (vV 7))
def c_law_bushy_1 : DE :=
    (modE (call1 dInt (consA (vV 7) (nilA))) (vV 1))
def b_law_bushy_1 : DS :=
    (seqS (setS 4 (addE (kE (.int 1)) (mulE (kE (.int 7)) (vV 3))))
      (seqS (setS 5 (oE (lcO [7] (lstI (slE (vV 0) (someP (vV 4)) (someP (addE (addE (vV 4) (kE (.int 2))) (call1 dInt (consA (eqE (ixE (vV 0) (addE (vV 4) (kE (.int 5)))) (kE (.int 0))) (nilA))))))) (nmG 7) (yesT) (c_law_bushy_1))))
      (seqS (setS 5 (addE (vV 5) (oE (lcO [7] (lstI (slE (vV 0) (someP (addE (vV 4) (kE (.int 3)))) (someP (addE (addE (vV 4) (kE (.int 3))) (modE (call1 dInt (consA (ixE (vV 0) (addE (vV 4) (kE (.int 6)))) (nilA))) (kE (.int 3))))))) (nmG 7) (yesT) (c_law_bushy_2)))))
      (seqS (setS 6 (modE (divE (call1 dInt (consA (ixE (vV 0) (addE (vV 4) (kE (.int 6)))) (nilA))) (kE (.int 3))) (call1 dLen (consA (vV 5) (nilA)))))
      (mutS 2 dApp (consA (call1 dTuple (consA (addE (slE (vV 5) (someP (vV 6)) noP) (slE (vV 5) noP (someP (vV 6)))) (nilA))) (nilA)))))))
def d_law_bushy : List D → Option D := fnD 8
    (seqS (setS 1 (addE (kE (.int 1)) (ixE (vV 0) (kE (.int 0)))))
    (seqS (setO 2 (lstO (nilA)))
    (seqS (forS (rng1I (consA (vV 1) (nilA))) (nmG 3) (b_law_bushy_1))
    (retS (call1 dTuple (consA (vV 2) (nilA)))))))
def d_law_some : List D → Option D := fnD 6
    (seqS (ifS (tE (ltE (vV 0) (kE (.int 3))))
      (retS (call1 d_law_row (consA (call1 d_law_digits (consA (vE 1) (consA (call1 d_law_row_sizes nilA) (nilA)))) (nilA))))
      (nextS))
    (seqS (ifS (tE (ltE (vV 0) (kE (.int 5))))
      (retS (call1 d_law_branched (consA (call1 d_law_row (consA (call1 d_law_digits (consA (vE 1) (consA (call1 d_law_row_sizes nilA) (nilA)))) (nilA))) (consA (vE 2) (consA (subE (vV 0) (kE (.int 2))) (nilA))))))
      (nextS))
    (seqS (ifS (tE (eqE (vV 0) (kE (.int 5))))
      (retS (call1 d_law_bushy (consA (call1 d_law_digits (consA (vE 1) (consA (addE (oE (lstO (consA (kE (.int 3)) (nilA)))) (mulE (addE (addE (mulE (oE (lstO (consA (kE (.int 6)) (nilA)))) (kE (.int 3))) (mulE (oE (lstO (consA (kE (.int 3)) (nilA)))) (kE (.int 2)))) (oE (lstO (consA (kE (.int 4)) (consA (kE (.int 15)) (nilA)))))) (kE (.int 3)))) (nilA)))) (nilA))))
      (nextS))
    (seqS (setS 3 (ixE (oE (lstO (consA (kE (.int 8)) (consA (kE (.int 40)) (nilA))))) (subE (vV 0) (kE (.int 6)))))
    (seqS (setS 4 (ixE (oE (lstO (consA (kE (.int 4)) (consA (kE (.int 20)) (nilA))))) (subE (vV 0) (kE (.int 6)))))
    (seqS (setS 5 (call1 d_law_book (consA (call1 d_law_digits (consA (vE 1) (consA (call1 d_law_book_sizes (consA (vE 3) (consA (vE 4) (nilA)))) (nilA)))) (consA (vE 3) (consA (vE 4) (nilA))))))
    (seqS (ifS (tE (eqE (call1 dLen (consA (ixE (vV 5) (kE (.int 0))) (nilA))) (kE (.int 0))))
      (retS (addE (tupE (consA (tupE (consA (subE (call1 dLen (consA (vV 5) (nilA))) (kE (.int 1))) (consA (negE (kE (.int 2))) (nilA)))) (nilA))) (slE (vV 5) (someP (kE (.int 1))) noP)))
      (nextS))
    (retS (vE 5)))))))))
def c_law_sum_2 : DE :=
    (ixE (oE (lstO (consA (vE 5) (consA (addE (vV 5) (vV 2)) (nilA))))) (call1 dInt (consA (geE (vV 5) (kE (.int 0))) (nilA))))
def b_law_sum_2 : DS :=
    (mutS 3 dApp (consA (call1 dTuple (consA (oE (lcO [5] (tupI (vE 4)) (nmG 5) (yesT) (c_law_sum_2))) (nilA))) (nilA)))
def c_law_sum_1 : DE :=
    (ixE (oE (lstO (consA (vE 5) (consA (addE (vV 5) (kE (.int 1))) (nilA))))) (call1 dInt (consA (geE (vV 5) (kE (.int 0))) (nilA))))
def b_law_sum_1 : DS :=
    (mutS 3 dApp (consA (call1 dTuple (consA (oE (lcO [5] (tupI (vE 4)) (nmG 5) (yesT) (c_law_sum_1))) (nilA))) (nilA)))
def d_law_sum : List D → Option D := fnD 6
    (seqS (setS 2 (addE (kE (.int 1)) (call1 dLen (consA (vV 0) (nilA)))))
    (seqS (setO 3 (lstO (consA (tupE (consA (kE (.int 1)) (consA (vE 2) (nilA)))) (nilA))))
    (seqS (forS (tupI (vE 0)) (nmG 4) (b_law_sum_1))
    (seqS (forS (tupI (vE 1)) (nmG 4) (b_law_sum_2))
    (retS (call1 dTuple (consA (vV 3) (nilA))))))))
def b_law_fitting_3 : DS :=
    (ifS (tE (geE (vV 10) (kE (.int 0))))
            (seqS (setS 8 (subE (addE (vV 8) (ixE (ixE (vV 4) (vV 10)) (kE (.int 0)))) (kE (.int 1))))
            (setS 9 (subE (addE (addE (vV 9) (ixE (ixE (vV 4) (vV 10)) (kE (.int 0)))) (ixE (ixE (vV 4) (vV 10)) (kE (.int 1)))) (kE (.int 1)))))
            (nextS))
def b_law_fitting_2 : DS :=
    (seqS (setS 8 (call1 dLen (consA (vV 7) (nilA))))
        (seqS (setS 9 (call1 dLen (consA (vV 7) (nilA))))
        (seqS (forS (tupI (vE 7)) (nmG 10) (b_law_fitting_3))
        (mutS 6 dApp (consA (tupE (consA (vE 8) (consA (vE 9) (nilA)))) (nilA))))))
def b_law_fitting_1 : DS :=
    (seqS (setO 6 (lstO (nilA)))
      (seqS (forS (tupI (vE 0)) (nmG 7) (b_law_fitting_2))
      (seqS (frzS 6 (setS 4 (vE 6)))
      (ifS (tE (gtE (call1 dSumA (consA (ixE (vV 4) (vV 1)) (nilA))) (vV 3)))
        (retS (vE 5))
        (nextS)))))
def d_law_fitting : List D → Option D := fnD 11
    (seqS (setS 4 (mulE (oE (lstO (consA (tupE (consA (kE (.int 1)) (consA (kE (.int 0)) (nilA)))) (nilA)))) (call1 dLen (consA (vV 0) (nilA)))))
    (seqS (forS (rng1I (consA (vV 2) (nilA))) (nmG 5) (b_law_fitting_1))
    (retS (vE 2))))
def b_law_front_3 : DS :=
    (mutS 5 dApp (consA (tupE (consA (addE (ixE (vV 6) (kE (.int 0))) (tupE (consA (vE 8) (nilA)))) (consA (ixE (vV 7) (vV 8)) (nilA)))) (nilA)))
def b_law_front_2 : DS :=
    (ifS (tE (ltE (ixE (vV 6) (kE (.int 1))) (kE (.int 0))))
          (mutS 5 dApp (consA (vE 6) (nilA)))
          (seqS (setS 7 (ixE (vV 0) (ixE (vV 6) (kE (.int 1)))))
          (forS (rng1I (consA (call1 dLen (consA (vV 7) (nilA))) (nilA))) (nmG 8) (b_law_front_3))))
def b_law_front_1 : DS :=
    (seqS (setO 5 (lstO (nilA)))
      (seqS (forS (lstI (vE 3)) (nmG 6) (b_law_front_2))
      (setS 3 (oE (listO (consA (vV 5) (nilA)))))))
def d_law_front : List D → Option D := fnD 9
    (seqS (setS 3 (oE (lstO (consA (tupE (consA (tupE (nilA)) (consA (vE 1) (nilA)))) (nilA)))))
    (seqS (forS (rng1I (consA (vV 2) (nilA))) (nmG 4) (b_law_front_1))
    (retS (vE 3))))
def b_law_same_row_1 : DS :=
    (ifS (orT (notT (tE (call1 d_law_whole (consA (ixE (vV 0) (vV 2)) (nilA))))) (tE (neE (ixE (vV 0) (vV 2)) (ixE (vV 1) (vV 2)))))
        (retS (kE (.bl false)))
        (nextS))
def d_law_same_row : List D → Option D := fnD 3
    (seqS (ifS (orT (notT (tE (isD "tuple" (vV 0)))) (tE (neE (call1 dLen (consA (vV 0) (nilA))) (call1 dLen (consA (vV 1) (nilA))))))
      (retS (kE (.bl false)))
      (nextS))
    (seqS (forS (rng1I (consA (call1 dLen (consA (vV 1) (nilA))) (nilA))) (nmG 2) (b_law_same_row_1))
    (retS (kE (.bl true)))))
def b_law_same_rows_1 : DS :=
    (ifS (notT (tE (call1 d_law_same_row (consA (ixE (vV 0) (vV 2)) (consA (ixE (vV 1) (vV 2)) (nilA))))))
        (retS (kE (.bl false)))
        (nextS))
def d_law_same_rows : List D → Option D := fnD 3
    (seqS (ifS (orT (notT (tE (isD "tuple" (vV 0)))) (tE (neE (call1 dLen (consA (vV 0) (nilA))) (call1 dLen (consA (vV 1) (nilA))))))
      (retS (kE (.bl false)))
      (nextS))
    (seqS (forS (rng1I (consA (call1 dLen (consA (vV 1) (nilA))) (nilA))) (nmG 2) (b_law_same_rows_1))
    (retS (kE (.bl true)))))
def c_law_is_front_1 : DE :=
    (ixE (vV 7) (kE (.int 0)))
def b_law_is_front_1 : DS :=
    (stS 6 (call1 dMax2 (consA (kE (.int 0)) (consA (negE (ixE (vV 7) (kE (.int 1)))) (nilA)))) (addE (ixE (vV 6) (call1 dMax2 (consA (kE (.int 0)) (consA (negE (ixE (vV 7) (kE (.int 1)))) (nilA))))) (kE (.int 1))))
def d_law_is_front : List D → Option D := fnD 10
    (seqS (setS 5 (call1 d_law_front (consA (vE 1) (consA (vE 2) (consA (vE 3) (nilA))))))
    (seqS (setO 6 (lstO (consA (kE (.int 0)) (consA (kE (.int 0)) (consA (kE (.int 0)) (consA (kE (.int 0)) (nilA)))))))
    (seqS (forS (lstI (vE 5)) (nmG 7) (b_law_is_front_1))
    (seqS (ifS (orT (tE (vE 4)) (tE (gtE (vV 2) (kE (.int 0)))))
      (seqS (setS 8 (callK d_front (consA (vE 0) (consA (vE 3) (nilA))) (consA (vE 2) (nilA))))
      (setS 9 (callK d_count_front (consA (vE 0) (consA (vE 3) (nilA))) (consA (vE 2) (nilA)))))
      (seqS (setS 8 (call1 (fun ds => d_front (ds ++ df_front)) (consA (vE 0) (consA (vE 3) (nilA)))))
      (setS 9 (call1 (fun ds => d_count_front (ds ++ df_count_front)) (consA (vE 0) (consA (vE 3) (nilA)))))))
    (frzS 6 (retS (andE (call1 d_law_same_rows (consA (vE 8) (consA (oE (lcO [7] (lstI (vE 5)) (nmG 7) (yesT) (c_law_is_front_1))) (nilA)))) (call1 d_law_same_row (consA (vE 9) (consA (vE 6) (nilA)))))))))))
def d_law_asked : List D → Option D := fnD 10
    (seqS (setS 4 (call1 dLen (consA (vV 0) (nilA))))
    (seqS (setS 5 (call1 dMin2 (consA (kE (.int 12)) (consA (ixE (vV 1) (kE (.int 0))) (nilA)))))
    (seqS (setS 6 (call1 d_law_fitting (consA (vE 0) (consA (kE (.int 0)) (consA (vE 5) (consA (vE 2) (nilA)))))))
    (seqS (setS 7 (modE (call1 dInt (consA (ixE (vV 1) (kE (.int 1))) (nilA))) (vV 4)))
    (seqS (setS 8 (modE (call1 dInt (consA (ixE (vV 1) (kE (.int 2))) (nilA))) (vV 4)))
    (seqS (setO 9 (lstO (consA (tupE (consA (kE (.int 0)) (consA (vE 6) (consA (eqE (ixE (vV 1) (kE (.int 5))) (kE (.int 0))) (nilA))))) (consA (tupE (consA (vE 7) (consA (call1 d_law_fitting (consA (vE 0) (consA (vE 7) (consA (vE 5) (consA (vE 2) (nilA)))))) (consA (kE (.bl true)) (nilA))))) (consA (tupE (consA (kE (.int 0)) (consA (call1 dMax2 (consA (kE (.int 0)) (consA (subE (vV 6) (kE (.int 1))) (nilA)))) (consA (kE (.bl false)) (nilA))))) (nilA))))))
    (seqS (mutS 9 dApp (consA (tupE (consA (kE (.int 0)) (consA (modE (call1 dInt (consA (ixE (vV 1) (kE (.int 3))) (nilA))) (addE (vV 6) (kE (.int 1)))) (consA (gtE (ixE (vV 1) (kE (.int 5))) (kE (.int 1))) (nilA))))) (nilA)))
    (seqS (mutS 9 dApp (consA (tupE (consA (vE 8) (consA (call1 d_law_fitting (consA (vE 0) (consA (vE 8) (consA (ixE (vV 1) (kE (.int 4))) (consA (vE 2) (nilA)))))) (consA (kE (.bl true)) (nilA))))) (nilA)))
    (retS (slE (vV 9) noP (someP (vV 3))))))))))))
def b_law_5 : DS :=
    (ifS (orT (notT (tE (isOb "Book" (ixE (vV 9) (vV 5))))) (notT (tE (call1 d_law_same_rows (consA (fldE "Book" "kinds" (ixE (vV 9) (vV 5))) (consA (ixE (vV 3) (vV 5)) (nilA)))))))
        (retS (kE (.bl false)))
        (nextS))
def b_law_4 : DS :=
    (ifS (tE (ltE (vV 10) (call1 dLen (consA (ixE (vV 4) (vV 5)) (nilA)))))
          (seqS (setS 11 (ixE (ixE (vV 4) (vV 5)) (vV 10)))
          (ifS (notT (tE (call1 d_law_is_front (consA (ixE (vV 9) (vV 5)) (consA (ixE (vV 3) (vV 5)) (consA (ixE (vV 11) (kE (.int 0))) (consA (ixE (vV 11) (kE (.int 1))) (consA (ixE (vV 11) (kE (.int 2))) (nilA)))))))))
            (retS (kE (.bl false)))
            (nextS)))
          (nextS))
def b_law_3 : DS :=
    (forS (rng1I (consA (kE (.int 3)) (nilA))) (nmG 5) (b_law_4))
def c_law_1 : DA :=
    (listO (consA (vV 12) (nilA)))
def b_law_2 : DS :=
    (seqS (setS 7 (call1 d_law_digits (consA (call1 d_law_cell (consA (vE 0) (consA (addE (kE (.int 5)) (vV 5)) (nilA)))) (consA (oE (lstO (consA (kE (.int 52)) (consA (kE (.int 840)) (consA (kE (.int 840)) (consA (kE (.int 13)) (consA (kE (.int 13)) (consA (kE (.int 4)) (nilA))))))))) (nilA)))))
      (mutS 4 dApp (consA (call1 d_law_asked (consA (ixE (vV 3) (vV 5)) (consA (vE 7) (consA (vE 2) (consA (ixE (oE (lstO (consA (kE (.int 5)) (consA (kE (.int 5)) (consA (kE (.int 2)) (nilA)))))) (vV 5)) (nilA)))))) (nilA))))
def b_law_1 : DS :=
    (seqS (setS 6 (call1 d_law_digits (consA (call1 d_law_cell (consA (vE 0) (consA (addE (kE (.int 3)) (vV 5)) (nilA)))) (consA (mulE (oE (lstO (consA (kE (.int 12)) (consA (kE (.int 12)) (consA (kE (.int 21)) (nilA)))))) (kE (.int 2))) (nilA)))))
      (mutS 3 dApp (consA (call1 d_law_some (consA (ixE (vV 1) (vV 5)) (consA (call1 d_law_cell (consA (vE 0) (consA (addE (kE (.int 1)) (vV 5)) (nilA)))) (consA (vE 6) (nilA))))) (nilA))))
def d_law : List D → Option D := fnD 13
    (seqS (setS 1 (call1 d_law_digits (consA (call1 d_law_cell (consA (vE 0) (consA (kE (.int 0)) (nilA)))) (consA (oE (lstO (consA (kE (.int 8)) (consA (kE (.int 8)) (consA (kE (.int 8)) (nilA)))))) (nilA)))))
    (seqS (setS 2 (ixE (oE (lstO (consA (kE (.int 18000)) (consA (kE (.int 6000)) (consA (kE (.int 1500)) (consA (kE (.int 1500)) (consA (kE (.int 1500)) (consA (kE (.int 1500)) (consA (kE (.int 1500)) (consA (kE (.int 1500)) (nilA))))))))))) (ixE (vV 1) (kE (.int 2)))))
    (seqS (setO 3 (lstO (nilA)))
    (seqS (setO 4 (lstO (nilA)))
    (seqS (forS (rng1I (consA (kE (.int 2)) (nilA))) (nmG 5) (b_law_1))
    (seqS (mutS 3 dApp (consA (call1 d_law_sum (consA (ixE (vV 3) (kE (.int 0))) (consA (ixE (vV 3) (kE (.int 1))) (nilA)))) (nilA)))
    (seqS (forS (rng1I (consA (kE (.int 3)) (nilA))) (nmG 5) (b_law_2))
    (seqS (setN 8 [12] (tupI (ixE (vV 3) (kE (.int 0)))) (nmG 12) (yesT) (c_law_1))
    (seqS (setO 9 (lstO (consA (mkE "Book" i_Book (consA (bE 8) (nilA))) (consA (mkE "Book" i_Book (consA (ixE (vV 3) (kE (.int 1))) (nilA))) (nilA)))))
    (seqS (napS 8 dApp (kE (.int 0)) (consA (kE (.int 0)) (nilA)))
    (seqS (nxaS 8 (lstO (consA (negE (kE (.int 1))) (nilA))))
    (seqS (mutS 9 dApp (consA (own2E "Book" d_Book_add (ixE (vV 9) (kE (.int 0))) (ixE (vV 9) (kE (.int 1)))) (nilA)))
    (seqS (forS (lstI (oE (lstO (consA (kE (.int 0)) (consA (kE (.int 1)) (consA (kE (.int 2)) (consA (kE (.int 3)) (consA (kE (.int 4)) (consA (kE (.int 0)) (nilA)))))))))) (nmG 10) (b_law_3))
    (seqS (forS (rng1I (consA (kE (.int 3)) (nilA))) (nmG 5) (b_law_5))
    (retS (kE (.bl true)))))))))))))))))
end DL
namespace DL
open PySem L2
theorem bAt_bw {d : D} {ρ : Env} : bAt (bwD d :: ρ) 0 = some d := by cases d <;> rfl
theorem i_Book_ok : ∀ (x dx : Addr) (ds : List D) (fs : List (Str × D)), i_Book ds = some fs → initD "Book" 5 e_Book_init x dx ds = some fs := by
  intro x dx ds fs h
  unfold i_Book at h
  split at h
  · rename_i d
    split at h
    · rename_i ks hf
      split at h
      · rename_i hc
        obtain ⟨h1, h2, h3⟩ := hc
        cases h
        have key : wp e_Book_init (startI "Book" 5 x dx [d]) fun fl => fl = .nx [.oo x dx "Book" [("kinds", .tup ks)], bwD d, .sh (.tup ks), .no, .no] ∨ ∃ x3 x4 : LV, fl = .nx [.oo x dx "Book" [("kinds", .tup ks)], bwD d, .sh (.tup ks), x3, x4] := by
          unfold startI e_Book_init
          have hk : ∀ (i : Nat), i < ks.length → ∃ ts, atI ks (i : Int) = some (.tup ts) ∧ (ts.length : Int) < 2 ^ 62 ∧ ∀ t ∈ ts, okTarget ks.length t = true := fun i hi => by
            have := List.all_eq_true.mp h3 _ (List.getElem_mem hi)
            unfold okKind at this
            split at this
            · rename_i ts e
              simp at this
              exact ⟨ts, by rw [atI_nat hi, List.getElem?_eq_getElem hi, e], by have := this.2; omega, fun t ht => this.1 t ht⟩
            · cases this
          have hne : ks ≠ [] := fun e => h1 (by rw [e]; rfl)
          simp [bAt_bw, hf, hne]
          refine wp_loop (rngL 0 ks.length) (fun i r => ∃ x3 x4 : LV, r = [.oo x dx "Book" [], bwD d, .sh (.tup ks), x3, x4]) (by simp; omega) ⟨.no, .no, rfl⟩ ?_ ?_
          · rintro i _ _ hi ⟨x3, x4, rfl⟩
            obtain ⟨rfl, hi⟩ := rng_get hi
            obtain ⟨ts, e1, e2, e3⟩ := hk i (by omega)
            simp [b_Book_init_1]
            refine wp_loop (rngL 0 ts.length) (fun j r => ∃ x4 : LV, r = [.oo x dx "Book" [], bwD d, .sh (.tup ks), .sh (.int i), x4]) (by simp [e1]; omega) ⟨x4, rfl⟩ ?_ ?_
            · rintro j _ _ hj ⟨x4, rfl⟩
              obtain ⟨rfl, hj⟩ := rng_get hj
              have hjl : j < ts.length := by omega
              have ht := e3 _ (List.getElem_mem hjl)
              have ha : atI ts (j : Int) = some ts[j] := by rw [atI_nat hjl, List.getElem?_eq_getElem hjl]
              unfold okTarget at ht
              split at ht
              · rename_i t et
                rw [et] at ha
                have hd : d_is_target [.int t, .int (ks.length : Int)] = some (.bl true) := by
                  rw [← wo_ex]
                  apply fnD_of
                  have := of_decide_eq_true ht
                  have hw : d_is_whole [.int t] = some (.bl true) := rfl
                  simp [hw, this.1, this.2]
                simp [b_Book_init_2, e1, ha, hd]
              · cases ht
            · rintro _ ⟨x4, rfl⟩
              simp
          · rintro _ ⟨x3, x4, rfl⟩
            simp [putD]
        obtain ⟨fl, e, q⟩ := key
        unfold initD
        rw [e]
        rcases q with rfl | ⟨x3, x4, rfl⟩ <;> simp
      · cases h
    · cases h
  · cases h
end DL
namespace DL
open PySem L2
def topS (i : Nat) : Stmt := PySem.Challenge.pw_endsalike_k00_fronts_to_twelve.main.body.getD i (.Pass ⟨0, 0, 0, 0⟩)
abbrev PP : Program := PySem.Challenge.pw_endsalike_k00_fronts_to_twelve
abbrev s_frozen : Stmt := (topS 1)
theorem sc_frozen : FnScope ["value", "item"] ["value"] (defScope s_frozen) := ⟨rfl, rfl, rfl, by decide +kernel, rfl, by decide +kernel, by decide +kernel⟩
abbrev s_is_whole : Stmt := (topS 2)
theorem sc_is_whole : FnScope ["value"] ["value"] (defScope s_is_whole) := ⟨rfl, rfl, rfl, by decide +kernel, rfl, by decide +kernel, by decide +kernel⟩
abbrev s_continued : Stmt := (topS 7)
theorem sc_continued : FnScope ["kinds", "places", "found", "way", "target", "step"] ["kinds", "places"] (defScope s_continued) := ⟨rfl, rfl, rfl, by decide +kernel, rfl, by decide +kernel, by decide +kernel⟩
abbrev s_front : Stmt := (topS 8)
theorem sc_front : FnScope ["book", "depth", "start", "places", "_", "way", "target"] ["book", "depth", "start"] (defScope s_front) := ⟨rfl, rfl, rfl, by decide +kernel, rfl, by decide +kernel, by decide +kernel⟩
abbrev s_next_counts : Stmt := (topS 9)
theorem sc_next_counts : FnScope ["kinds", "counts", "found", "marks", "kind", "target"] ["kinds", "counts"] (defScope s_next_counts) := ⟨rfl, rfl, rfl, by decide +kernel, rfl, by decide +kernel, by decide +kernel⟩
abbrev s_count_front : Stmt := (topS 10)
theorem sc_count_front : FnScope ["book", "depth", "start", "counts", "total", "_", "marks", "mark"] ["book", "depth", "start"] (defScope s_count_front) := ⟨rfl, rfl, rfl, by decide +kernel, rfl, by decide +kernel, by decide +kernel⟩
abbrev s_is_target : Stmt := (topS 12)
theorem sc_is_target : FnScope ["value", "many"] ["value", "many"] (defScope s_is_target) := ⟨rfl, rfl, rfl, by decide +kernel, rfl, by decide +kernel, by decide +kernel⟩
abbrev s_moved_kinds : Stmt := (topS 13)
theorem sc_moved_kinds : FnScope ["kinds", "amount", "kind", "target"] ["kinds", "amount"] (defScope s_moved_kinds) := ⟨rfl, rfl, rfl, by decide +kernel, rfl, by decide +kernel, by decide +kernel⟩
abbrev s_Book_init : Stmt := (inClass (topS 14) 0)
theorem sc_Book_init : FnScope ["self", "kinds", "copied", "kind", "place"] ["self", "kinds"] (defScope s_Book_init) := ⟨rfl, rfl, rfl, by decide +kernel, rfl, by decide +kernel, by decide +kernel⟩
abbrev s_Book_add : Stmt := (inClass (topS 14) 4)
theorem sc_Book_add : FnScope ["self", "other", "second", "first_kind"] ["self", "other"] (defScope s_Book_add) := ⟨rfl, rfl, rfl, by decide +kernel, rfl, by decide +kernel, by decide +kernel⟩
abbrev s_law_whole : Stmt := (topS 16)
theorem sc_law_whole : FnScope ["value"] ["value"] (defScope s_law_whole) := ⟨rfl, rfl, rfl, by decide +kernel, rfl, by decide +kernel, by decide +kernel⟩
abbrev s_law_cell : Stmt := (topS 17)
theorem sc_law_cell : FnScope ["script", "k", "seed", "cell"] ["script", "k"] (defScope s_law_cell) := ⟨rfl, rfl, rfl, by decide +kernel, rfl, by decide +kernel, by decide +kernel⟩
abbrev s_law_digits : Stmt := (topS 18)
theorem sc_law_digits : FnScope ["cell", "sizes", "row", "seed", "rest", "k", "twice"] ["cell", "sizes"] (defScope s_law_digits) := ⟨rfl, rfl, rfl, by decide +kernel, rfl, by decide +kernel, by decide +kernel⟩
abbrev s_law_book_sizes : Stmt := (topS 19)
theorem sc_law_book_sizes : FnScope ["n", "e"] ["n", "e"] (defScope s_law_book_sizes) := ⟨rfl, rfl, rfl, by decide +kernel, rfl, by decide +kernel, by decide +kernel⟩
abbrev s_law_target : Stmt := (topS 20)
theorem sc_law_target : FnScope ["digit", "k", "many", "j", "rest", "way"] ["digit", "k", "many", "j"] (defScope s_law_target) := ⟨rfl, rfl, rfl, by decide +kernel, rfl, by decide +kernel, by decide +kernel⟩
abbrev s_law_book : Stmt := (topS 21)
theorem sc_law_book : FnScope ["row", "n", "e", "many", "kinds", "k", "size", "j"] ["row", "n", "e"] (defScope s_law_book) := ⟨rfl, rfl, rfl, by decide +kernel, rfl, by decide +kernel, by decide +kernel⟩
abbrev s_law_row_sizes : Stmt := (topS 22)
theorem sc_law_row_sizes : FnScope [] [] (defScope s_law_row_sizes) := ⟨rfl, rfl, rfl, by decide +kernel, rfl, by decide +kernel, by decide +kernel⟩
abbrev s_law_row : Stmt := (topS 23)
theorem sc_law_row : FnScope ["row", "many", "kinds", "k", "at", "told", "place", "near", "digit"] ["row"] (defScope s_law_row) := ⟨rfl, rfl, rfl, by decide +kernel, rfl, by decide +kernel, by decide +kernel⟩
abbrev s_law_branched : Stmt := (topS 24)
theorem sc_law_branched : FnScope ["kinds", "row", "count", "told", "many", "k", "line", "kind"] ["kinds", "row", "count"] (defScope s_law_branched) := ⟨rfl, rfl, rfl, by decide +kernel, rfl, by decide +kernel, by decide +kernel⟩
abbrev s_law_bushy : Stmt := (topS 25)
theorem sc_law_bushy : FnScope ["row", "many", "kinds", "k", "at", "told", "turn", "digit"] ["row"] (defScope s_law_bushy) := ⟨rfl, rfl, rfl, by decide +kernel, rfl, by decide +kernel, by decide +kernel⟩
abbrev s_law_some : Stmt := (topS 26)
theorem sc_law_some : FnScope ["sort", "cell", "more", "n", "most", "kinds"] ["sort", "cell", "more"] (defScope s_law_some) := ⟨rfl, rfl, rfl, by decide +kernel, rfl, by decide +kernel, by decide +kernel⟩
abbrev s_law_sum : Stmt := (topS 27)
theorem sc_law_sum : FnScope ["left", "right", "shift", "found", "kind", "t"] ["left", "right"] (defScope s_law_sum) := ⟨rfl, rfl, rfl, by decide +kernel, rfl, by decide +kernel, by decide +kernel⟩
abbrev s_law_fitting : Stmt := (topS 28)
theorem sc_law_fitting : FnScope ["kinds", "first", "deep", "limit", "table", "turn", "later", "kind", "ways", "steps", "t"] ["kinds", "first", "deep", "limit"] (defScope s_law_fitting) := ⟨rfl, rfl, rfl, by decide +kernel, rfl, by decide +kernel, by decide +kernel⟩
abbrev s_law_front : Stmt := (topS 29)
theorem sc_law_front : FnScope ["kinds", "first", "deep", "pairs", "turn", "longer", "pair", "here", "e"] ["kinds", "first", "deep"] (defScope s_law_front) := ⟨rfl, rfl, rfl, by decide +kernel, rfl, by decide +kernel, by decide +kernel⟩
abbrev s_law_same_row : Stmt := (topS 30)
theorem sc_law_same_row : FnScope ["told", "due", "k"] ["told", "due"] (defScope s_law_same_row) := ⟨rfl, rfl, rfl, by decide +kernel, rfl, by decide +kernel, by decide +kernel⟩
abbrev s_law_same_rows : Stmt := (topS 31)
theorem sc_law_same_rows : FnScope ["told", "due", "k"] ["told", "due"] (defScope s_law_same_rows) := ⟨rfl, rfl, rfl, by decide +kernel, rfl, by decide +kernel, by decide +kernel⟩
abbrev s_law_is_front : Stmt := (topS 32)
theorem sc_law_is_front : FnScope ["book", "kinds", "first", "deep", "named", "pairs", "numbers", "pair", "told", "count"] ["book", "kinds", "first", "deep", "named"] (defScope s_law_is_front) := ⟨rfl, rfl, rfl, by decide +kernel, rfl, by decide +kernel, by decide +kernel⟩
abbrev s_law_asked : Stmt := (topS 33)
theorem sc_law_asked : FnScope ["kinds", "row", "limit", "count", "many", "want", "deep", "first", "second", "asked"] ["kinds", "row", "limit", "count"] (defScope s_law_asked) := ⟨rfl, rfl, rfl, by decide +kernel, rfl, by decide +kernel, by decide +kernel⟩
abbrev s_law : Stmt := (topS 34)
theorem sc_law : FnScope ["script", "head", "limit", "tables", "asked", "side", "more", "row", "handed", "books", "turn", "item", "kind"] ["script"] (defScope s_law) := ⟨rfl, rfl, rfl, by decide +kernel, rfl, by decide +kernel, by decide +kernel⟩
structure Txt (K : PySem.W.Frag) (mg : Mg) where
  f_frozen : Addr
  fd_frozen : FuncData
  F_frozen : Fun K "frozen" "frozen" s_frozen f_frozen fd_frozen
  b_frozen : Binds K fd_frozen ["value"] []
  g_frozen : mg "frozen" = some (.ref f_frozen)
  f_is_whole : Addr
  fd_is_whole : FuncData
  F_is_whole : Fun K "is_whole" "is_whole" s_is_whole f_is_whole fd_is_whole
  b_is_whole : Binds K fd_is_whole ["value"] []
  g_is_whole : mg "is_whole" = some (.ref f_is_whole)
  f_continued : Addr
  fd_continued : FuncData
  F_continued : Fun K "continued" "continued" s_continued f_continued fd_continued
  b_continued : Binds K fd_continued ["kinds", "places"] []
  g_continued : mg "continued" = some (.ref f_continued)
  f_front : Addr
  fd_front : FuncData
  F_front : FunD K "front" "front" (defArgs s_front) (defBody s_front) (defScope s_front) [] [("start", V.int 0)] f_front fd_front
  ds_front : List Value
  v_front : Vals ([("start", V.int 0)] : List (Str × V)).unzip.2 ds_front
  b_front : Binds K fd_front ["book", "depth", "start"] ds_front
  kb_front : KBn K fd_front ["book", "depth", "start"] 2 ["start"] (fun us ws => us ++ ws) (fun us ws => us ++ ws)
  g_front : mg "front" = some (.ref f_front)
  f_next_counts : Addr
  fd_next_counts : FuncData
  F_next_counts : Fun K "next_counts" "next_counts" s_next_counts f_next_counts fd_next_counts
  b_next_counts : Binds K fd_next_counts ["kinds", "counts"] []
  g_next_counts : mg "next_counts" = some (.ref f_next_counts)
  f_count_front : Addr
  fd_count_front : FuncData
  F_count_front : FunD K "count_front" "count_front" (defArgs s_count_front) (defBody s_count_front) (defScope s_count_front) [] [("start", V.int 0)] f_count_front fd_count_front
  ds_count_front : List Value
  v_count_front : Vals ([("start", V.int 0)] : List (Str × V)).unzip.2 ds_count_front
  b_count_front : Binds K fd_count_front ["book", "depth", "start"] ds_count_front
  kb_count_front : KBn K fd_count_front ["book", "depth", "start"] 2 ["start"] (fun us ws => us ++ ws) (fun us ws => us ++ ws)
  g_count_front : mg "count_front" = some (.ref f_count_front)
  f_is_target : Addr
  fd_is_target : FuncData
  F_is_target : Fun K "is_target" "is_target" s_is_target f_is_target fd_is_target
  b_is_target : Binds K fd_is_target ["value", "many"] []
  g_is_target : mg "is_target" = some (.ref f_is_target)
  f_moved_kinds : Addr
  fd_moved_kinds : FuncData
  F_moved_kinds : Fun K "moved_kinds" "moved_kinds" s_moved_kinds f_moved_kinds fd_moved_kinds
  b_moved_kinds : Binds K fd_moved_kinds ["kinds", "amount"] []
  g_moved_kinds : mg "moved_kinds" = some (.ref f_moved_kinds)
  f_Book_init : Addr
  fd_Book_init : FuncData
  F_Book_init : Fun K "__init__" "Book.__init__" s_Book_init f_Book_init fd_Book_init
  b_Book_init : Binds K fd_Book_init ["self", "kinds"] []
  f_Book_add : Addr
  fd_Book_add : FuncData
  F_Book_add : Fun K "__add__" "Book.__add__" s_Book_add f_Book_add fd_Book_add
  b_Book_add : Binds K fd_Book_add ["self", "other"] []
  f_law_whole : Addr
  fd_law_whole : FuncData
  F_law_whole : Fun K "_law_whole" "_law_whole" s_law_whole f_law_whole fd_law_whole
  b_law_whole : Binds K fd_law_whole ["value"] []
  g_law_whole : mg "_law_whole" = some (.ref f_law_whole)
  f_law_cell : Addr
  fd_law_cell : FuncData
  F_law_cell : Fun K "_law_cell" "_law_cell" s_law_cell f_law_cell fd_law_cell
  b_law_cell : Binds K fd_law_cell ["script", "k"] []
  g_law_cell : mg "_law_cell" = some (.ref f_law_cell)
  f_law_digits : Addr
  fd_law_digits : FuncData
  F_law_digits : Fun K "_law_digits" "_law_digits" s_law_digits f_law_digits fd_law_digits
  b_law_digits : Binds K fd_law_digits ["cell", "sizes"] []
  g_law_digits : mg "_law_digits" = some (.ref f_law_digits)
  f_law_book_sizes : Addr
  fd_law_book_sizes : FuncData
  F_law_book_sizes : Fun K "_law_book_sizes" "_law_book_sizes" s_law_book_sizes f_law_book_sizes fd_law_book_sizes
  b_law_book_sizes : Binds K fd_law_book_sizes ["n", "e"] []
  g_law_book_sizes : mg "_law_book_sizes" = some (.ref f_law_book_sizes)
  f_law_target : Addr
  fd_law_target : FuncData
  F_law_target : Fun K "_law_target" "_law_target" s_law_target f_law_target fd_law_target
  b_law_target : Binds K fd_law_target ["digit", "k", "many", "j"] []
  g_law_target : mg "_law_target" = some (.ref f_law_target)
  f_law_book : Addr
  fd_law_book : FuncData
  F_law_book : Fun K "_law_book" "_law_book" s_law_book f_law_book fd_law_book
  b_law_book : Binds K fd_law_book ["row", "n", "e"] []
  g_law_book : mg "_law_book" = some (.ref f_law_book)
  f_law_row_sizes : Addr
  fd_law_row_sizes : FuncData
  F_law_row_sizes : Fun K "_law_row_sizes" "_law_row_sizes" s_law_row_sizes f_law_row_sizes fd_law_row_sizes
  b_law_row_sizes : Binds K fd_law_row_sizes [] []
  g_law_row_sizes : mg "_law_row_sizes" = some (.ref f_law_row_sizes)
  f_law_row : Addr
  fd_law_row : FuncData
  F_law_row : Fun K "_law_row" "_law_row" s_law_row f_law_row fd_law_row
  b_law_row : Binds K fd_law_row ["row"] []
  g_law_row : mg "_law_row" = some (.ref f_law_row)
  f_law_branched : Addr
  fd_law_branched : FuncData
  F_law_branched : Fun K "_law_branched" "_law_branched" s_law_branched f_law_branched fd_law_branched
  b_law_branched : Binds K fd_law_branched ["kinds", "row", "count"] []
  g_law_branched : mg "_law_branched" = some (.ref f_law_branched)
  f_law_bushy : Addr
  fd_law_bushy : FuncData
  F_law_bushy : Fun K "_law_bushy" "_law_bushy" s_law_bushy f_law_bushy fd_law_bushy
  b_law_bushy : Binds K fd_law_bushy ["row"] []
  g_law_bushy : mg "_law_bushy" = some (.ref f_law_bushy)
  f_law_some : Addr
  fd_law_some : FuncData
  F_law_some : Fun K "_law_some" "_law_some" s_law_some f_law_some fd_law_some
  b_law_some : Binds K fd_law_some ["sort", "cell", "more"] []
  g_law_some : mg "_law_some" = some (.ref f_law_some)
  f_law_sum : Addr
  fd_law_sum : FuncData
  F_law_sum : Fun K "_law_sum" "_law_sum" s_law_sum f_law_sum fd_law_sum
  b_law_sum : Binds K fd_law_sum ["left", "right"] []
  g_law_sum : mg "_law_sum" = some (.ref f_law_sum)
  f_law_fitting : Addr
  fd_law_fitting : FuncData
  F_law_fitting : Fun K "_law_fitting" "_law_fitting" s_law_fitting f_law_fitting fd_law_fitting
  b_law_fitting : Binds K fd_law_fitting ["kinds", "first", "deep", "limit"] []
  g_law_fitting : mg "_law_fitting" = some (.ref f_law_fitting)
  f_law_front : Addr
  fd_law_front : FuncData
  F_law_front : Fun K "_law_front" "_law_front" s_law_front f_law_front fd_law_front
  b_law_front : Binds K fd_law_front ["kinds", "first", "deep"] []
  g_law_front : mg "_law_front" = some (.ref f_law_front)
  f_law_same_row : Addr
  fd_law_same_row : FuncData
  F_law_same_row : Fun K "_law_same_row" "_law_same_row" s_law_same_row f_law_same_row fd_law_same_row
  b_law_same_row : Binds K fd_law_same_row ["told", "due"] []
  g_law_same_row : mg "_law_same_row" = some (.ref f_law_same_row)
  f_law_same_rows : Addr
  fd_law_same_rows : FuncData
  F_law_same_rows : Fun K "_law_same_rows" "_law_same_rows" s_law_same_rows f_law_same_rows fd_law_same_rows
  b_law_same_rows : Binds K fd_law_same_rows ["told", "due"] []
  g_law_same_rows : mg "_law_same_rows" = some (.ref f_law_same_rows)
  f_law_is_front : Addr
  fd_law_is_front : FuncData
  F_law_is_front : Fun K "_law_is_front" "_law_is_front" s_law_is_front f_law_is_front fd_law_is_front
  b_law_is_front : Binds K fd_law_is_front ["book", "kinds", "first", "deep", "named"] []
  g_law_is_front : mg "_law_is_front" = some (.ref f_law_is_front)
  f_law_asked : Addr
  fd_law_asked : FuncData
  F_law_asked : Fun K "_law_asked" "_law_asked" s_law_asked f_law_asked fd_law_asked
  b_law_asked : Binds K fd_law_asked ["kinds", "row", "limit", "count"] []
  g_law_asked : mg "_law_asked" = some (.ref f_law_asked)
  f_law : Addr
  fd_law : FuncData
  F_law : Fun K "law" "law" s_law f_law fd_law
  b_law : Binds K fd_law ["script"] []
  g_law : mg "law" = some (.ref f_law)
  c_Book : Addr
  g_Book : mg "Book" = some (.ref c_Book)
  cl_Book : Cls K c_Book
  ci_Book : ClsI K c_Book
  M_Book : Mk K c_Book f_Book_init
  sf_Book : PySem.W.selfFirst K c_Book = true
  s_Book_add : PySem.W.findIn K (.ref c_Book) "__add__" = some (some (.ref f_Book_add))
  i_Book_add : PySem.W.isFn K (.ref f_Book_add) = true
  na_Book_kinds : NoAttr K c_Book "kinds"
  z_bool : mg "bool" = none
  z_int : mg "int" = none
  z_isinstance : mg "isinstance" = none
  z_len : mg "len" = none
  z_list : mg "list" = none
  z_max : mg "max" = none
  z_min : mg "min" = none
  z_range : mg "range" = none
  z_sum : mg "sum" = none
  z_tuple : mg "tuple" = none
section
variable {w : World} {K : PySem.W.Frag} {mg : Mg} {base : Heap}
theorem dfr_front {F : Hp} : RepL K mg F df_front [V.int 0] := ⟨_, _, rfl, rfl, rfl⟩
theorem dfr_count_front {F : Hp} : RepL K mg F df_count_front [V.int 0] := ⟨_, _, rfl, rfl, rfl⟩
theorem isT_kit {n : String} (hn : n = "NoneType" ∨ n = "bool" ∨ n = "int" ∨ n = "str" ∨ n = "list" ∨ n = "tuple") : PySem.W.kitAny K (.type n) [.type "list", .type "tuple"] = some (n == "list" || n == "tuple") := by
  have h1 := kit_ty (K := K) (kit_all (T := "list") (by decide) hn)
  have h2 := kit_ty (K := K) (kit_all (T := "tuple") (by decide) hn)
  rcases hn with rfl | rfl | rfl | rfl | rfl | rfl <;> (simp only [PySem.W.kitAny, h1, h2]; decide +kernel)
theorem Rep.v' {H : Hp} {d : D} {v : V} (h : Rep K mg H d v) : RepV K mg H H d v := h.v (Same.refl _)
theorem ok_frozen (T : Txt K mg) : ∀ n, FnOk PP w K mg base CX0 (n + 1) T.f_frozen T.fd_frozen ["value"] (spFz K mg n) := by
  intro n
  induction n with
  | zero =>
    refine T.F_frozen.ok sc_frozen (fun vs H Q E q => q.1) fun cdv A outer s H vs Q E hr h => ?_
    have nd := sc_frozen.nd
    obtain ⟨_, F, v, d, z, rfl, fh, r, hz, q⟩ := h
    refine ⟨_, pss_cons (ps_if (pt_val (pe_callB call_isiT (by rfl) T.z_isinstance (by decide +kernel) (pa_cons (pv 0) (pa_cons (pe_tup (pa_cons (pe_bltn (v := .ty "list") (by rfl) T.z_list (by decide +kernel) rfl) (pa_cons (pe_bltn (v := .ty "tuple") (by rfl) T.z_tuple (by decide +kernel) rfl) pa_nil))) pa_nil)))) pss_never pss_nil) (pss_one (ps_ret (pv 0))), ?_⟩
    refine ⟨v, rfl, by show 2 ≤ sizeLine; decide, fun tp htp => ?_⟩
    have fin : ∀ nm, tyN d = some nm → (nm == "list" || nm == "tuple") = false → z = d → (∀ F', Rep K mg F' d v) → rIsiT K [v, .ref tp] (upd H tp (.tup [.ty "list", .ty "tuple"])) (fun x H' => ∃ c, x = .bl c ∧ if c = true then False else tRet (tVar 0) { nx := fun _ H' => Q .non H', rt := Q } (L2.start ["value", "item"] [v]) H') := fun nm h1 h2 h3 h4 => by
      refine ⟨v, tp, [.ty "list", .ty "tuple"], .type nm, [.type "list", .type "tuple"], _, rfl, upd_same, .cons (.ty _) (.cons (.ty _) .nil), ty_of (Same.refl _) (Rep.v' (r.mono (same_new htp))) h1, isT_kit (tyN_in h1), _, rfl, ?_⟩
      rw [h2]
      refine iteF ⟨v, rfl, ?_⟩
      rw [h3] at q
      exact q F v _ (Gr.newH fh htp) (h4 F)
    cases d with
    | non => cases hz; exact fin _ rfl rfl rfl fun _ => r
    | bl b => cases hz; exact fin _ rfl rfl rfl fun _ => r
    | int i => cases hz; exact fin _ rfl rfl rfl fun _ => r
    | str x => cases hz; exact fin _ rfl rfl rfl fun _ => r
    | lst ds => cases hz
    | tup ds => cases hz
    | scr ns => cases hz
    | ob c fs => cases hz
  | succ n ih =>
    refine T.F_frozen.ok sc_frozen (fun vs H Q E q => q.1) fun cdv A outer s H vs Q E hr h => ?_
    have nd := sc_frozen.nd
    obtain ⟨_, F, v, d, z, rfl, fh, r, hz, q⟩ := h
    refine ⟨_, pss_cons (ps_if (pt_val (pe_callB call_isiT (by rfl) T.z_isinstance (by decide +kernel) (pa_cons (pv 0) (pa_cons (pe_tup (pa_cons (pe_bltn (v := .ty "list") (by rfl) T.z_list (by decide +kernel) rfl) (pa_cons (pe_bltn (v := .ty "tuple") (by rfl) T.z_tuple (by decide +kernel) rfl) pa_nil))) pa_nil))))
        (pss_one (ps_ret (pe_callTy call_tuple_of (by rfl) T.z_tuple (by decide +kernel) (pa_cons (pe_lc (own := [("item", 1)]) (g := gName 1) (tt := tYes) rfl nd (PI.or (pi_list (pv 0)) (pi_tup (pv 0))) (blkOk_by (by rfl)) (fun _ _ _ _ _ => pg_name (i := 1) nd rfl (.inl rfl)) (fun _ _ _ _ _ => pts_nil)
          (fun _ _ _ _ _ => L2.pe_call ih hr (by rfl) T.g_frozen T.F_frozen.kp T.b_frozen .nil pass0 (pa_cons (pv 1) pa_nil))) pa_nil)))) pss_nil) (pss_one (ps_ret (pv 0))), ?_⟩
    refine ⟨v, rfl, by show 2 ≤ sizeLine; decide, fun tp htp => ?_⟩
    have hT : Same H (upd H tp (.tup [.ty "list", .ty "tuple"])) := same_new htp
    have turn : ∀ (ds es : List D) (ws : List V) (Dl : Addr) (i : Nat) (x : V) (H2 : Hp), RepL K mg H ds ws → mapO (frzD n) ds = some es → upd H tp (.tup [.ty "list", .ty "tuple"]) Dl = none → ws.length ≤ sizeLine → ws[i]? = some x →
        (∃ F' acc, Gr F H F' H2 ∧ F' Dl = none ∧ H2 Dl = some (.lst acc) ∧ acc.length ≤ i ∧ RepL K mg F' (es.take i) acc) →
        spFz K mg n [x] H2 (fun y H4 => ∃ acc, H4 Dl = some (.lst acc) ∧ acc.length < sizeLine ∧ ∃ F' acc', Gr F H F' (upd H4 Dl (.lst (acc ++ [y]))) ∧ F' Dl = none ∧ upd H4 Dl (.lst (acc ++ [y])) Dl = some (.lst acc') ∧ acc'.length ≤ i + 1 ∧ RepL K mg F' (es.take (i + 1)) acc') E0 := by
      intro ds es ws Dl i x H2 rr hm hD hsz hx hP
      obtain ⟨F', acc, g, f, hH, hl, ra⟩ := hP
      have hDl : H Dl = none := hT.free hD
      obtain ⟨d', hd', rd⟩ := rr.get' hx
      obtain ⟨e', he', hfe⟩ := mapO_get hm hd'
      refine ⟨rfl, F', x, d', e', rfl, g.fh, rd.mono g.hh, hfe, fun F3 y H4 g3 r3 => ?_⟩
      have h4 : H4 Dl = some (.lst acc) := g3.hh _ _ hH
      have f3 : F3 Dl = none := g3.nw Dl (by rw [hH]; exact fun z => nomatch z) f
      have gg := g.trans g3
      have hi : i < ws.length := (List.getElem?_eq_some_iff.mp hx).1
      refine ⟨acc, h4, by omega, F3, acc ++ [y], ⟨gg.ff, fun b o e => by rw [upd_ne (ne_of_none e hDl)]; exact gg.hh _ _ e, fun b o e => by rw [upd_ne (ne_of_none e f3)]; exact gg.fh _ _ e, gg.nw⟩, f3, upd_same, by rw [List.length_append, List.length_singleton]; omega, ?_⟩
      rw [List.take_add_one, he']
      exact (ra.mono g3.ff).app (RepL.one r3)
    have fin : ∀ nm, tyN d = some nm → (nm == "list" || nm == "tuple") = false → z = d → (∀ F', Rep K mg F' d v) → ∀ R : Hp → Prop, rIsiT K [v, .ref tp] (upd H tp (.tup [.ty "list", .ty "tuple"])) (fun x H' => ∃ c, x = .bl c ∧ if c = true then R H' else tRet (tVar 0) { nx := fun _ H' => Q .non H', rt := Q } (L2.start ["value", "item"] [v]) H') := fun nm h1 h2 h3 h4 R => by
      refine ⟨v, tp, [.ty "list", .ty "tuple"], .type nm, [.type "list", .type "tuple"], _, rfl, upd_same, .cons (.ty _) (.cons (.ty _) .nil), ty_of (Same.refl _) (Rep.v' (r.mono hT)) h1, isT_kit (tyN_in h1), _, rfl, ?_⟩
      rw [h2]
      refine iteF ⟨v, rfl, ?_⟩
      rw [h3] at q
      exact q F v _ (Gr.newH fh htp) (h4 F)
    have done : ∀ (es : List D) (Dl : Addr) (H2 : Hp), z = .tup es → (∃ F' acc, Gr F H F' H2 ∧ F' Dl = none ∧ H2 Dl = some (.lst acc) ∧ acc.length ≤ es.length ∧ RepL K mg F' (es.take es.length) acc) →
        ∃ p ys, [V.ref Dl] = [V.ref p] ∧ ((SqL K H2 p ys ∧ ∀ l, H2 l = none → Q (.ref l) (upd H2 l (.tup ys))) ∨ (SqT K H2 p ys ∧ Q (.ref p) H2)) := by
      intro es Dl H2 ez hP
      obtain ⟨F', acc, g, f, hH, hl, ra⟩ := hP
      refine ⟨Dl, acc, rfl, .inl ⟨SqL.of hH, fun l hl2 => ?_⟩⟩
      rw [ez] at q
      rw [List.take_length] at ra
      exact q _ _ _ (g.trans (Gr.new g.fh hl2)) ⟨l, acc, rfl, SqT.of upd_same, ra.mono (same_new (g.fh.free hl2))⟩
    cases d with
    | non => cases hz; exact fin _ rfl rfl rfl (fun _ => r) _
    | bl b => cases hz; exact fin _ rfl rfl rfl (fun _ => r) _
    | int i => cases hz; exact fin _ rfl rfl rfl (fun _ => r) _
    | str x => cases hz; exact fin _ rfl rfl rfl (fun _ => r) _
    | scr ns => cases hz
    | ob c fs => cases hz
    | lst ds =>
      unfold frzD at hz
      split at hz
      · rename_i es hm
        split at hz
        · rename_i hsz
          cases hz
          have hle : es.length = ds.length := mapO_len hm
          obtain ⟨a, ws, rfl, h1, h2⟩ := id r
          have hws := h2.len
          refine ⟨_, tp, [.ty "list", .ty "tuple"], .type "list", [.type "list", .type "tuple"], true, rfl, upd_same, .cons (.ty _) (.cons (.ty _) .nil), ty_of (Same.refl _) (Rep.v' (r.mono hT)) rfl, isT_kit (by decide), _, rfl, iteT ?_⟩
          refine .inl ⟨_, rfl, a, rfl, ⟨ws, SqL.of (hT _ _ h1)⟩, fun Dl hD => ?_⟩
          have hDl : H Dl = none := hT.free hD
          refine lc_list (xs := ws) (fun i H2 => ∃ F' acc, Gr F H F' H2 ∧ F' Dl = none ∧ H2 Dl = some (.lst acc) ∧ acc.length ≤ i ∧ RepL K mg F' (es.take i) acc) ⟨F, [], (Gr.newH fh htp).trans (Gr.newH (fh.trans hT) hD), fh.free hDl, upd_same, Nat.le_refl _, rfl⟩ (fun i H2 _ hP => ?_) (fun i x H2 hx hP => ?_) (fun H2 hP => ?_)
          · obtain ⟨F', acc, g, _⟩ := hP
            exact SqL.of (g.hh _ _ h1)
          · refine ⟨rfl, ?_⟩
            unfold tYes
            dsimp only
            rw [if_pos rfl]
            refine ⟨x, rfl, ?_⟩
            exact turn ds es ws Dl i x H2 h2 hm hD (by rw [hws]; exact hsz) hx hP
          · exact done es Dl H2 rfl (by rw [hws, ← hle] at hP; exact hP)
        · cases hz
      · cases hz
    | tup ds =>
      unfold frzD at hz
      split at hz
      · rename_i es hm
        split at hz
        · rename_i hsz
          cases hz
          have hle : es.length = ds.length := mapO_len hm
          obtain ⟨a, ws, rfl, h1, h2⟩ := id r
          have hws := h2.len
          refine ⟨_, tp, [.ty "list", .ty "tuple"], .type "tuple", [.type "list", .type "tuple"], true, rfl, upd_same, .cons (.ty _) (.cons (.ty _) .nil), ty_of (Same.refl _) (Rep.v' (r.mono hT)) rfl, isT_kit (by decide), _, rfl, iteT ?_⟩
          refine .inr ⟨_, rfl, a, rfl, ⟨ws, seqT_mono hT h1⟩, fun Dl hD => ?_⟩
          have hDl : H Dl = none := hT.free hD
          refine lc_tup (xs := ws) (fun i H2 => ∃ F' acc, Gr F H F' H2 ∧ F' Dl = none ∧ H2 Dl = some (.lst acc) ∧ acc.length ≤ i ∧ RepL K mg F' (es.take i) acc) ⟨F, [], (Gr.newH fh htp).trans (Gr.newH (fh.trans hT) hD), fh.free hDl, upd_same, Nat.le_refl _, rfl⟩ (fun i H2 _ hP => ?_) (fun i x H2 hx hP => ?_) (fun H2 hP => ?_)
          · obtain ⟨F', acc, g, _⟩ := hP
            exact seqT_mono g.hh h1
          · refine ⟨rfl, ?_⟩
            unfold tYes
            dsimp only
            rw [if_pos rfl]
            refine ⟨x, rfl, ?_⟩
            exact turn ds es ws Dl i x H2 h2 hm hD (by rw [hws]; exact hsz) hx hP
          · exact done es Dl H2 rfl (by rw [hws, ← hle] at hP; exact hP)
        · cases hz
      · cases hz
theorem ok_is_whole (T : Txt K mg) : FnOk PP w K mg base CX0 1 T.f_is_whole T.fd_is_whole ["value"] (spD K mg 1 d_is_whole) :=
  have nd := sc_is_whole.nd
  fn_ok T.F_is_whole sc_is_whole fun cdv A outer s H E hr =>
    (pdss_one (pds_ret (pde_and (pde_isT (t := "int") (by decide) (by rfl) T.z_isinstance (by rfl) T.z_int (by decide +kernel) (pdv_var 0)) (pde_one (pde_not (pde_isT (t := "bool") (by decide) (by rfl) T.z_isinstance (by rfl) T.z_bool (by decide +kernel) (pdv_var 0)))))))
theorem ok_continued (T : Txt K mg) : FnOk PP w K mg base CX0 1 T.f_continued T.fd_continued ["kinds", "places"] (spD K mg 2 d_continued) :=
  have nd := sc_continued.nd
  fn_ok T.F_continued sc_continued fun cdv A outer s H E hr =>
    (pdss_cons (pds_setO (i := 2) nd rfl (.inl rfl) (pdo_lst (pda_nil)))
    (pdss_cons (pds_for PassesOwn.never rfl (pdi_lst (pde_var 1)) (pdg_tup rfl (pdgs_cons (pdg_name (i := 3) nd rfl (.inl rfl)) (pdgs_cons (pdg_name (i := 4) nd rfl (.inl rfl)) (pdgs_nil))))
      (pdss_one (pds_if (pdt_lt (pdv_var 4) (pdv (pde_int)))
        (pdss_one (pds_mut (i := 2) PySem.F.slot_list_append PySem.F.type_list_append mt_append mutd_app rfl (.inl rfl) (pda_cons (pde_tup (pda_cons (pde_var 3) (pda_cons (pde_var 4) (pda_nil)))) (pda_nil))))
        (pdss_one (pds_for PassesOwn.never rfl (pdi_range1 (by rfl) T.z_range (pdr_cons (pdv (pde_len (by rfl) T.z_len (pdr_cons (pdv (pde_ix (pdv_var 0) (pdv_var 4))) (pdr_nil)))) (pdr_nil))) (pdg_name (i := 5) nd rfl (.inl rfl))
          (pdss_one (pds_mut (i := 2) PySem.F.slot_list_append PySem.F.type_list_append mt_append mutd_app rfl (.inl rfl) (pda_cons (pde_tup (pda_cons (pde_add (pdv_var 3) (pdv (pde_tup (pda_cons (pde_var 5) (pda_nil))))) (pda_cons (pde_ix (pdv (pde_ix (pdv_var 0) (pdv_var 4))) (pdv_var 5)) (pda_nil)))) (pda_nil)))))))))
    (pdss_one (pds_frz 2 (pds_ret (pde_var 2))))))
theorem ok_front (T : Txt K mg) : FnOk PP w K mg base CX0 2 T.f_front T.fd_front ["book", "depth", "start"] (spD K mg 3 d_front) :=
  have nd := sc_front.nd
  fn_okD T.F_front sc_front fun cdv A outer s H E hr =>
    (pdss_cons (pds_set (i := 3) nd rfl (.inl rfl) (pde_o (pdo_lst (pda_cons (pde_tup (pda_cons (pde_tup (pda_nil)) (pda_cons (pde_var 2) (pda_nil)))) (pda_nil)))))
    (pdss_cons (pds_for PassesOwn.never rfl (pdi_range1 (by rfl) T.z_range (pdr_cons (pdv_var 1) (pdr_nil))) (pdg_name (i := 4) nd rfl (.inl rfl))
      (pdss_one (pds_set (i := 3) nd rfl (.inl rfl) (pde_call (ok_continued T) (hr.mono (by decide)) (by rfl) T.g_continued T.F_continued.kp T.b_continued (consA_len (consA_len nilA_len)) (pda_cons (pde_fld T.g_Book T.cl_Book T.na_Book_kinds (pde_var 0)) (pda_cons (pde_var 3) (pda_nil)))))))
    (pdss_one (pds_ret (pde_tuple (by rfl) T.z_tuple (pdr_cons (pdv (pde_o (pdo_lc rfl nd (pdi_lst (pde_var 3)) (blkOk_by (own := [("way", 5), ("target", 6)]) (by rfl)) (fun _ _ _ _ _ => pdg_tup rfl (pdgs_cons (pdg_name (i := 5) nd rfl (.inl rfl)) (pdgs_cons (pdg_name (i := 6) nd rfl (.inl rfl)) (pdgs_nil)))) (fun _ _ _ _ _ => pdts_nil) (fun _ _ _ _ _ => pde_var 5)))) (pdr_nil)))))))
theorem ok_next_counts (T : Txt K mg) : FnOk PP w K mg base CX0 1 T.f_next_counts T.fd_next_counts ["kinds", "counts"] (spD K mg 2 d_next_counts) :=
  have nd := sc_next_counts.nd
  fn_ok T.F_next_counts sc_next_counts fun cdv A outer s H E hr =>
    (pdss_cons (pds_setO (i := 2) nd rfl (.inl rfl) (pdo_rep (pdv (pde_o (pdo_lst (pda_cons (pde_int) (pda_nil))))) (pdv (pde_len (by rfl) T.z_len (pdr_cons (pdv_var 0) (pdr_nil))))))
    (pdss_cons (pds_setO (i := 3) nd rfl (.inl rfl) (pdo_lst (pda_cons (pde_int) (pda_cons (pde_int) (pda_cons (pde_int) (pda_nil))))))
    (pdss_cons (pds_for PassesOwn.never rfl (pdi_range1 (by rfl) T.z_range (pdr_cons (pdv (pde_len (by rfl) T.z_len (pdr_cons (pdv_var 0) (pdr_nil)))) (pdr_nil))) (pdg_name (i := 4) nd rfl (.inl rfl))
      (pdss_one (pds_if (pdt_gt (pdv (pde_ix (pdv_var 1) (pdv_var 4))) (pdv (pde_int)))
        (pdss_one (pds_for PassesOwn.never rfl (pdi_tup (pde_ix (pdv_var 0) (pdv_var 4))) (pdg_name (i := 5) nd rfl (.inl rfl))
          (pdss_one (pds_if (pdt_ge (pdv_var 5) (pdv (pde_int)))
            (pdss_one (pds_augix (i := 2) rfl (.inl rfl) (pdv_var 5) (pdv (pde_ix (pdv_var 1) (pdv_var 4))) ip_add))
            (pdss_one (pds_augix (i := 3) rfl (.inl rfl) (pdv (pde_sub (pdv (pde_neg (pdv (pde_int)))) (pdv_var 5))) (pdv (pde_ix (pdv_var 1) (pdv_var 4))) ip_add))))))
        (pdss_nil))))
    (pdss_one (pds_frz 3 (pds_frz 2 (pds_ret (pde_tup (pda_cons (pde_var 2) (pda_cons (pde_var 3) (pda_nil)))))))))))
theorem ok_count_front (T : Txt K mg) : FnOk PP w K mg base CX0 2 T.f_count_front T.fd_count_front ["book", "depth", "start"] (spD K mg 3 d_count_front) :=
  have nd := sc_count_front.nd
  fn_okD T.F_count_front sc_count_front fun cdv A outer s H E hr =>
    (pdss_cons (pds_setO (i := 3) nd rfl (.inl rfl) (pdo_rep (pdv (pde_o (pdo_lst (pda_cons (pde_int) (pda_nil))))) (pdv (pde_len (by rfl) T.z_len (pdr_cons (pdv (pde_fld T.g_Book T.cl_Book T.na_Book_kinds (pde_var 0))) (pdr_nil))))))
    (pdss_cons (pds_setix (i := 3) rfl (.inl rfl) (pde_int) (pdv_var 2))
    (pdss_cons (pds_set (i := 4) nd rfl (.inr rfl) (pde_o (pdo_lst (pda_cons (pde_int) (pda_cons (pde_int) (pda_cons (pde_int) (pda_nil)))))))
    (pdss_cons (pds_for PassesOwn.never rfl (pdi_range1 (by rfl) T.z_range (pdr_cons (pdv_var 1) (pdr_nil))) (pdg_name (i := 5) nd rfl (.inl rfl))
      (pdss_cons (pds_frz 3 (pds_asg (pde_call (ok_next_counts T) (hr.mono (by decide)) (by rfl) T.g_next_counts T.F_next_counts.kp T.b_next_counts (consA_len (consA_len nilA_len)) (pda_cons (pde_fld T.g_Book T.cl_Book T.na_Book_kinds (pde_var 0)) (pda_cons (pde_var 3) (pda_nil)))) (pdg_tup rfl (pdgs_cons (pdg_name (i := 3) nd rfl (.inl rfl)) (pdgs_cons (pdg_name (i := 6) nd rfl (.inr rfl)) (pdgs_nil))))))
      (pdss_one (pds_set (i := 4) nd rfl (.inr rfl) (pde_o (pdo_lc rfl nd (pdi_range1 (by rfl) T.z_range (pdr_cons (pdv (pde_int)) (pdr_nil))) (blkOk_by (own := [("mark", 7)]) (by rfl)) (fun _ _ _ _ _ => pdg_name (i := 7) nd rfl (.inl rfl)) (fun _ _ _ _ _ => pdts_nil) (fun _ _ _ _ _ => pde_add (pdv (pde_ix (pdv_var 4) (pdv_var 7))) (pdv (pde_ix (pdv_var 6) (pdv_var 7))))))))))
    (pdss_one (pds_ret (pde_tup (pda_cons (pde_sumA rfl (by rfl) T.z_sum (pdr_cons (pdv_var 3) (pdr_nil))) (pda_cons (pde_ix (pdv_var 4) (pdv (pde_int))) (pda_cons (pde_ix (pdv_var 4) (pdv (pde_int))) (pda_cons (pde_ix (pdv_var 4) (pdv (pde_int))) (pda_nil))))))))))))
theorem ok_is_target (T : Txt K mg) : FnOk PP w K mg base CX0 2 T.f_is_target T.fd_is_target ["value", "many"] (spD K mg 2 d_is_target) :=
  have nd := sc_is_target.nd
  fn_ok T.F_is_target sc_is_target fun cdv A outer s H E hr =>
    (pdss_one (pds_ret (pde_and (pde_call (ok_is_whole T) (hr.mono (by decide)) (by rfl) T.g_is_whole T.F_is_whole.kp T.b_is_whole (consA_len nilA_len) (pda_cons (pde_var 0) (pda_nil))) (pde_one (pde_chain op_le op_lt opd_B opd_B (pdv (pde_neg (pdv (pde_int)))) (pdv_var 0) (pdv_var 1))))))
theorem ok_moved_kinds (T : Txt K mg) : FnOk PP w K mg base CX0 1 T.f_moved_kinds T.fd_moved_kinds ["kinds", "amount"] (spD K mg 2 d_moved_kinds) :=
  have nd := sc_moved_kinds.nd
  fn_ok T.F_moved_kinds sc_moved_kinds fun cdv A outer s H E hr =>
    (pdss_one (pds_ret (pde_tuple (by rfl) T.z_tuple (pdr_cons (pdv (pde_o (pdo_lc rfl nd (pdi_tup (pde_var 0)) (blkOk_by (own := [("kind", 2)]) (by rfl)) (fun _ _ _ _ _ => pdg_name (i := 2) nd rfl (.inl rfl)) (fun _ _ _ _ _ => pdts_nil) (fun _ _ _ _ _ => pde_tuple (by rfl) T.z_tuple (pdr_cons (pdv (pde_o (pdo_lc rfl nd (pdi_tup (pde_var 2)) (blkOk_by (own := [("target", 3)]) (by rfl)) (fun _ _ _ _ _ => pdg_name (i := 3) nd rfl (.inl rfl)) (fun _ _ _ _ _ => pdts_nil) (fun _ _ _ _ _ => pde_if (pdt_ge (pdv_var 3) (pdv (pde_int))) (pde_add (pdv_var 3) (pdv_var 1)) (pde_var 3))))) (pdr_nil)))))) (pdr_nil)))))
theorem ok_Book_init (T : Txt K mg) : FnOk PP w K mg base CX0 5 T.f_Book_init T.fd_Book_init ["self", "kinds"] (spI K mg "Book" T.c_Book 2 (initD "Book" 5 e_Book_init)) :=
  have nd := sc_Book_init.nd
  fn_okI "Book" T.c_Book T.F_Book_init sc_Book_init fun cdv A outer s H E hr =>
    (pdss_cons (pds_set (i := 2) nd rfl (.inl rfl) (pde_frz (ok_frozen T 3) (hr.mono (by decide)) (by rfl) T.g_frozen T.F_frozen.kp T.b_frozen (pdbs_cons (pdb_var 1) pdbs_nil)))
    (pdss_cons (pds_if (pdt_eq (pdv (pde_len (by rfl) T.z_len (pdr_cons (pdv_var 2) (pdr_nil)))) (pdv (pde_int)))
      (pdss_one (pds_never))
      (pdss_nil))
    (pdss_cons (pds_for PassesOwn.never rfl (pdi_range1 (by rfl) T.z_range (pdr_cons (pdv (pde_len (by rfl) T.z_len (pdr_cons (pdv_var 2) (pdr_nil)))) (pdr_nil))) (pdg_name (i := 3) nd rfl (.inl rfl))
      (pdss_one (pds_for PassesOwn.never rfl (pdi_range1 (by rfl) T.z_range (pdr_cons (pdv (pde_len (by rfl) T.z_len (pdr_cons (pdv (pde_ix (pdv_var 2) (pdv_var 3))) (pdr_nil)))) (pdr_nil))) (pdg_name (i := 4) nd rfl (.inl rfl))
        (pdss_one (pds_if (pdt_not (pdt_val (pde_call (ok_is_target T) (hr.mono (by decide)) (by rfl) T.g_is_target T.F_is_target.kp T.b_is_target (consA_len (consA_len nilA_len)) (pda_cons (pde_ix (pdv (pde_ix (pdv_var 2) (pdv_var 3))) (pdv_var 4)) (pda_cons (pde_len (by rfl) T.z_len (pdr_cons (pdv_var 2) (pdr_nil))) (pda_nil))))))
          (pdss_one (pds_never))
          (pdss_nil))))))
    (pdss_one (pds_fld (i := 0) T.g_Book T.cl_Book T.na_Book_kinds rfl (.inl rfl) (pde_var 2))))))
theorem ok_Book_add (T : Txt K mg) : FnOk PP w K mg base CX0 7 T.f_Book_add T.fd_Book_add ["self", "other"] (spD K mg 2 d_Book_add) :=
  have nd := sc_Book_add.nd
  fn_ok T.F_Book_add sc_Book_add fun cdv A outer s H E hr =>
    (pdss_cons (pds_set (i := 2) nd rfl (.inl rfl) (pde_add (pdv (pde_int)) (pdv (pde_len (by rfl) T.z_len (pdr_cons (pdv (pde_fld T.g_Book T.cl_Book T.na_Book_kinds (pde_var 0))) (pdr_nil))))))
    (pdss_cons (pds_set (i := 3) nd rfl (.inl rfl) (pde_tup (pda_cons (pde_int) (pda_cons (pde_var 2) (pda_nil)))))
    (pdss_one (pds_ret (pde_make T.M_Book (ok_Book_init T) (hr.mono (by decide)) (by rfl) T.g_Book T.b_Book_init i_Book_ok (fun _ _ e => by rw [(consA_len nilA_len) _ _ e]; rfl) (pdbs_cons (pdb (pdv (pde_add (pdv (pde_add (pdv (pde_tup (pda_cons (pde_var 3) (pda_nil)))) (pdv (pde_call (ok_moved_kinds T) (hr.mono (by decide)) (by rfl) T.g_moved_kinds T.F_moved_kinds.kp T.b_moved_kinds (consA_len (consA_len nilA_len)) (pda_cons (pde_fld T.g_Book T.cl_Book T.na_Book_kinds (pde_var 0)) (pda_cons (pde_int) (pda_nil))))))) (pdv (pde_call (ok_moved_kinds T) (hr.mono (by decide)) (by rfl) T.g_moved_kinds T.F_moved_kinds.kp T.b_moved_kinds (consA_len (consA_len nilA_len)) (pda_cons (pde_fld T.g_Book T.cl_Book T.na_Book_kinds (pde_var 1)) (pda_cons (pde_var 2) (pda_nil)))))))) (pdbs_nil)))))))
theorem ok_law_whole (T : Txt K mg) : FnOk PP w K mg base CX0 1 T.f_law_whole T.fd_law_whole ["value"] (spD K mg 1 d_law_whole) :=
  have nd := sc_law_whole.nd
  fn_ok T.F_law_whole sc_law_whole fun cdv A outer s H E hr =>
    (pdss_one (pds_ret (pde_and (pde_isT (t := "int") (by decide) (by rfl) T.z_isinstance (by rfl) T.z_int (by decide +kernel) (pdv_var 0)) (pde_one (pde_not (pde_isT (t := "bool") (by decide) (by rfl) T.z_isinstance (by rfl) T.z_bool (by decide +kernel) (pdv_var 0)))))))
theorem ok_law_cell (T : Txt K mg) : FnOk PP w K mg base CX0 1 T.f_law_cell T.fd_law_cell ["script", "k"] (spD K mg 2 d_law_cell) :=
  have nd := sc_law_cell.nd
  fn_ok T.F_law_cell sc_law_cell fun cdv A outer s H E hr =>
    (pdss_cons (pds_if (pdt_lt (pdv_var 1) (pdv (pde_len (by rfl) T.z_len (pdr_cons (pdv_var 0) (pdr_nil)))))
      (pdss_one (pds_ret (pde_ix (pdv_var 0) (pdv_var 1))))
      (pdss_nil))
    (pdss_cons (pds_set (i := 2) nd rfl (.inl rfl) (pde_int))
    (pdss_cons (pds_for PassesOwn.never rfl (pdi_lst (pde_var 0)) (pdg_name (i := 3) nd rfl (.inl rfl))
      (pdss_one (pds_set (i := 2) nd rfl (.inl rfl) (pde_mod (pdv (pde_int1 (by rfl) T.z_int (pdr_cons (pdv (pde_add (pdv (pde_mul (pdv_var 2) (pdv (pde_int)))) (pdv (pde_mod (pdv (pde_int1 (by rfl) T.z_int (pdr_cons (pdv_var 3) (pdr_nil)))) (pdv (pde_int)))))) (pdr_nil)))) (pdv (pde_int))))))
    (pdss_one (pds_ret (pde_mod (pdv (pde_int1 (by rfl) T.z_int (pdr_cons (pdv (pde_mul (pdv (pde_mul (pdv (pde_add (pdv_var 2) (pdv (pde_int)))) (pdv (pde_add (pdv_var 1) (pdv (pde_int)))))) (pdv (pde_int)))) (pdr_nil)))) (pdv (pde_int))))))))
theorem ok_law_digits (T : Txt K mg) : FnOk PP w K mg base CX0 1 T.f_law_digits T.fd_law_digits ["cell", "sizes"] (spD K mg 2 d_law_digits) :=
  have nd := sc_law_digits.nd
  fn_ok T.F_law_digits sc_law_digits fun cdv A outer s H E hr =>
    (pdss_cons (pds_setO (i := 2) nd rfl (.inl rfl) (pdo_lst (pda_nil)))
    (pdss_cons (pds_set (i := 3) nd rfl (.inl rfl) (pde_mod (pdv (pde_int1 (by rfl) T.z_int (pdr_cons (pdv_var 0) (pdr_nil)))) (pdv (pde_int))))
    (pdss_cons (pds_set (i := 4) nd rfl (.inl rfl) (pde_max2 rfl (by rfl) T.z_max (pdr_cons (pdv (pde_int)) (pdr_cons (pdv (pde_sub (pdv (pde_int1 (by rfl) T.z_int (pdr_cons (pdv_var 0) (pdr_nil)))) (pdv (pde_pow (pdv (pde_int)) (pdv (pde_int)))))) (pdr_nil)))))
    (pdss_cons (pds_for PassesOwn.never rfl (pdi_range1 (by rfl) T.z_range (pdr_cons (pdv (pde_len (by rfl) T.z_len (pdr_cons (pdv_var 1) (pdr_nil)))) (pdr_nil))) (pdg_name (i := 5) nd rfl (.inl rfl))
      (pdss_cons (pds_set (i := 3) nd rfl (.inl rfl) (pde_mod (pdv (pde_int1 (by rfl) T.z_int (pdr_cons (pdv (pde_add (pdv (pde_add (pdv (pde_mul (pdv_var 3) (pdv (pde_int)))) (pdv (pde_mul (pdv (pde_int)) (pdv_var 5))))) (pdv (pde_int)))) (pdr_nil)))) (pdv (pde_int))))
      (pdss_cons (pds_set (i := 6) nd rfl (.inl rfl) (pde_mod (pdv (pde_int1 (by rfl) T.z_int (pdr_cons (pdv (pde_mul (pdv_var 3) (pdv (pde_add (pdv (pde_div (pdv_var 3) (pdv (pde_int)))) (pdv (pde_int)))))) (pdr_nil)))) (pdv (pde_int))))
      (pdss_one (pds_if (pdt_gt (pdv_var 4) (pdv (pde_int)))
        (pdss_cons (pds_mut (i := 2) PySem.F.slot_list_append PySem.F.type_list_append mt_append mutd_app rfl (.inl rfl) (pda_cons (pde_mod (pdv (pde_int1 (by rfl) T.z_int (pdr_cons (pdv_var 4) (pdr_nil)))) (pdv (pde_ix (pdv_var 1) (pdv_var 5)))) (pda_nil)))
        (pdss_one (pds_set (i := 4) nd rfl (.inl rfl) (pde_div (pdv (pde_int1 (by rfl) T.z_int (pdr_cons (pdv_var 4) (pdr_nil)))) (pdv (pde_ix (pdv_var 1) (pdv_var 5)))))))
        (pdss_one (pds_mut (i := 2) PySem.F.slot_list_append PySem.F.type_list_append mt_append mutd_app rfl (.inl rfl) (pda_cons (pde_mod (pdv (pde_div (pdv_var 6) (pdv (pde_int)))) (pdv (pde_ix (pdv_var 1) (pdv_var 5)))) (pda_nil)))))))))
    (pdss_one (pds_frz 2 (pds_ret (pde_var 2))))))))
theorem ok_law_book_sizes (T : Txt K mg) : FnOk PP w K mg base CX0 1 T.f_law_book_sizes T.fd_law_book_sizes ["n", "e"] (spD K mg 2 d_law_book_sizes) :=
  have nd := sc_law_book_sizes.nd
  fn_ok T.F_law_book_sizes sc_law_book_sizes fun cdv A outer s H E hr =>
    (pdss_one (pds_ret (pde_add (pdv (pde_add (pdv (pde_o (pdo_lst (pda_cons (pde_mul (pdv (pde_int)) (pdv_var 0)) (pda_nil))))) (pdv (pde_mul (pdv (pde_o (pdo_lst (pda_cons (pde_add (pdv (pde_mul (pdv (pde_int)) (pdv_var 1))) (pdv (pde_int))) (pda_nil))))) (pdv_var 0))))) (pdv (pde_mul (pdv (pde_o (pdo_lst (pda_cons (pde_mul (pdv (pde_int)) (pdv (pde_add (pdv_var 0) (pdv (pde_int))))) (pda_nil))))) (pdv (pde_mul (pdv_var 0) (pdv_var 1))))))))
theorem ok_law_target (T : Txt K mg) : FnOk PP w K mg base CX0 1 T.f_law_target T.fd_law_target ["digit", "k", "many", "j"] (spD K mg 4 d_law_target) :=
  have nd := sc_law_target.nd
  fn_ok T.F_law_target sc_law_target fun cdv A outer s H E hr =>
    (pdss_cons (pds_set (i := 4) nd rfl (.inl rfl) (pde_mod (pdv (pde_int1 (by rfl) T.z_int (pdr_cons (pdv_var 0) (pdr_nil)))) (pdv (pde_add (pdv_var 2) (pdv (pde_int))))))
    (pdss_cons (pds_set (i := 5) nd rfl (.inl rfl) (pde_mod (pdv (pde_div (pdv (pde_int1 (by rfl) T.z_int (pdr_cons (pdv_var 0) (pdr_nil)))) (pdv (pde_add (pdv_var 2) (pdv (pde_int)))))) (pdv (pde_int))))
    (pdss_cons (pds_if (pdt_eq (pdv_var 5) (pdv (pde_int)))
      (pdss_one (pds_ret (pde_sub (pdv_var 4) (pdv (pde_int)))))
      (pdss_nil))
    (pdss_cons (pds_if (pdt_gt (pdv_var 5) (pdv (pde_int)))
      (pdss_one (pds_ret (pde_add (pdv_var 1) (pdv (pde_mod (pdv (pde_int1 (by rfl) T.z_int (pdr_cons (pdv_var 4) (pdr_nil)))) (pdv (pde_sub (pdv_var 2) (pdv_var 1))))))))
      (pdss_nil))
    (pdss_cons (pds_if (pdt_w (pdw_and (pdt_eq (pdv_var 3) (pdv (pde_int))) (pdw_and (pdt_lt (pdv_var 5) (pdv (pde_int))) (pdw_and1 (pdt_w (pdw_or (pdt_gt (pdv_var 1) (pdv (pde_int))) (pdw_or1 (pdt_eq (pdv (pde_mod (pdv (pde_int1 (by rfl) T.z_int (pdr_cons (pdv_var 4) (pdr_nil)))) (pdv (pde_int)))) (pdv (pde_int))))))))))
      (pdss_one (pds_ret (pde_var 1)))
      (pdss_nil))
    (pdss_cons (pds_if (pdt_eq (pdv_var 3) (pdv (pde_int)))
      (pdss_one (pds_ret (pde_min2 rfl (by rfl) T.z_min (pdr_cons (pdv (pde_sub (pdv_var 2) (pdv (pde_int)))) (pdr_cons (pdv (pde_add (pdv_var 1) (pdv (pde_int)))) (pdr_nil))))))
      (pdss_nil))
    (pdss_cons (pds_if (pdt_eq (pdv_var 5) (pdv (pde_int)))
      (pdss_one (pds_ret (pde_var 1)))
      (pdss_nil))
    (pdss_cons (pds_if (pdt_w (pdw_and (pdt_eq (pdv_var 5) (pdv (pde_int))) (pdw_and1 (pdt_lt (pdv_var 4) (pdv (pde_int))))))
      (pdss_one (pds_ret (pde_ix (pdv (pde_o (pdo_lst (pda_cons (pde_neg (pdv (pde_int))) (pda_cons (pde_neg (pdv (pde_int))) (pda_cons (pde_neg (pdv (pde_int))) (pda_nil))))))) (pdv_var 4))))
      (pdss_nil))
    (pdss_cons (pds_if (pdt_lt (pdv_var 1) (pdv (pde_sub (pdv_var 2) (pdv (pde_int)))))
      (pdss_one (pds_ret (pde_add (pdv (pde_add (pdv_var 1) (pdv (pde_int)))) (pdv (pde_mod (pdv (pde_int1 (by rfl) T.z_int (pdr_cons (pdv_var 4) (pdr_nil)))) (pdv (pde_sub (pdv (pde_sub (pdv_var 2) (pdv_var 1))) (pdv (pde_int)))))))))
      (pdss_nil))
    (pdss_one (pds_ret (pde_ix (pdv (pde_o (pdo_lst (pda_cons (pde_var 1) (pda_cons (pde_neg (pdv (pde_int))) (pda_cons (pde_var 1) (pda_cons (pde_neg (pdv (pde_int))) (pda_cons (pde_neg (pdv (pde_int))) (pda_nil))))))))) (pdv (pde_mod (pdv (pde_int1 (by rfl) T.z_int (pdr_cons (pdv_var 4) (pdr_nil)))) (pdv (pde_int))))))))))))))))
theorem ok_law_book (T : Txt K mg) : FnOk PP w K mg base CX0 2 T.f_law_book T.fd_law_book ["row", "n", "e"] (spD K mg 3 d_law_book) :=
  have nd := sc_law_book.nd
  fn_ok T.F_law_book sc_law_book fun cdv A outer s H E hr =>
    (pdss_cons (pds_set (i := 3) nd rfl (.inr rfl) (pde_add (pdv (pde_int)) (pdv (pde_ix (pdv_var 0) (pdv (pde_int))))))
    (pdss_cons (pds_if (pdt_ge (pdv (pde_ix (pdv_var 0) (pdv (pde_int)))) (pdv_var 1))
      (pdss_one (pds_set (i := 3) nd rfl (.inr rfl) (pde_add (pdv (pde_int)) (pdv (pde_mod (pdv (pde_int1 (by rfl) T.z_int (pdr_cons (pdv (pde_ix (pdv_var 0) (pdv (pde_int)))) (pdr_nil)))) (pdv (pde_sub (pdv_var 1) (pdv (pde_int)))))))))
      (pdss_nil))
    (pdss_cons (pds_setO (i := 4) nd rfl (.inl rfl) (pdo_lst (pda_nil)))
    (pdss_cons (pds_for PassesOwn.never rfl (pdi_range1 (by rfl) T.z_range (pdr_cons (pdv_var 3) (pdr_nil))) (pdg_name (i := 5) nd rfl (.inr rfl))
      (pdss_cons (pds_set (i := 6) nd rfl (.inl rfl) (pde_ix (pdv_var 0) (pdv (pde_add (pdv (pde_int)) (pdv_var 5)))))
      (pdss_cons (pds_if (pdt_gt (pdv_var 6) (pdv_var 2))
        (pdss_one (pds_set (i := 6) nd rfl (.inl rfl) (pde_sub (pdv_var 6) (pdv_var 2))))
        (pdss_nil))
      (pdss_cons (pds_if (pdt_gt (pdv_var 6) (pdv_var 2))
        (pdss_one (pds_set (i := 6) nd rfl (.inl rfl) (pde_int)))
        (pdss_nil))
      (pdss_one (pds_mut (i := 4) PySem.F.slot_list_append PySem.F.type_list_append mt_append mutd_app rfl (.inl rfl) (pda_cons (pde_tuple (by rfl) T.z_tuple (pdr_cons (pdv (pde_o (pdo_lc rfl nd (pdi_range1 (by rfl) T.z_range (pdr_cons (pdv_var 6) (pdr_nil))) (blkOk_by (own := [("j", 7)]) (by rfl)) (fun _ _ _ _ _ => pdg_name (i := 7) nd rfl (.inl rfl)) (fun _ _ _ _ _ => pdts_nil) (fun _ _ _ _ _ => pde_call (ok_law_target T) (hr.mono (by decide)) (by rfl) T.g_law_target T.F_law_target.kp T.b_law_target (consA_len (consA_len (consA_len (consA_len nilA_len)))) (pda_cons (pde_ix (pdv_var 0) (pdv (pde_add (pdv (pde_add (pdv (pde_add (pdv (pde_int)) (pdv_var 1))) (pdv (pde_mul (pdv_var 5) (pdv_var 2))))) (pdv_var 7)))) (pda_cons (pde_var 5) (pda_cons (pde_var 3) (pda_cons (pde_var 7) (pda_nil))))))))) (pdr_nil))) (pda_nil))))))))
    (pdss_one (pds_ret (pde_tuple (by rfl) T.z_tuple (pdr_cons (pdv_var 4) (pdr_nil)))))))))
theorem ok_law_row_sizes (T : Txt K mg) : FnOk PP w K mg base CX0 1 T.f_law_row_sizes T.fd_law_row_sizes [] (spD K mg 0 d_law_row_sizes) :=
  have nd := sc_law_row_sizes.nd
  fn_ok T.F_law_row_sizes sc_law_row_sizes fun cdv A outer s H E hr =>
    (pdss_one (pds_ret (pde_add (pdv (pde_o (pdo_lst (pda_cons (pde_int) (pda_cons (pde_int) (pda_cons (pde_int) (pda_nil))))))) (pdv (pde_mul (pdv (pde_add (pdv (pde_o (pdo_lst (pda_cons (pde_int) (pda_cons (pde_int) (pda_nil)))))) (pdv (pde_mul (pdv (pde_o (pdo_lst (pda_cons (pde_int) (pda_nil))))) (pdv (pde_int)))))) (pdv (pde_int)))))))
theorem ok_law_row (T : Txt K mg) : FnOk PP w K mg base CX0 1 T.f_law_row T.fd_law_row ["row"] (spD K mg 1 d_law_row) :=
  have nd := sc_law_row.nd
  fn_ok T.F_law_row sc_law_row fun cdv A outer s H E hr =>
    (pdss_cons (pds_set (i := 1) nd rfl (.inl rfl) (pde_add (pdv (pde_int)) (pdv (pde_ix (pdv_var 0) (pdv (pde_int))))))
    (pdss_cons (pds_setO (i := 2) nd rfl (.inl rfl) (pdo_lst (pda_nil)))
    (pdss_cons (pds_for PassesOwn.never rfl (pdi_range1 (by rfl) T.z_range (pdr_cons (pdv_var 1) (pdr_nil))) (pdg_name (i := 3) nd rfl (.inl rfl))
      (pdss_cons (pds_set (i := 4) nd rfl (.inl rfl) (pde_add (pdv (pde_int)) (pdv (pde_mul (pdv (pde_int)) (pdv_var 3)))))
      (pdss_cons (pds_asgL (ps_setLcO (i := 5) rfl nd rfl rfl (sw_true rfl rfl rfl (by decide +kernel)) (pdi_lst (pde_slice (pdv_var 0) (pdp_some (pdv (pde_add (pdv_var 4) (pdv (pde_int))))) (pdp_some (pdv (pde_add (pdv (pde_add (pdv_var 4) (pdv (pde_int)))) (pdv (pde_min2 rfl (by rfl) T.z_min (pdr_cons (pdv (pde_int)) (pdr_cons (pdv (pde_ix (pdv_var 0) (pdv_var 4))) (pdr_nil)))))))))) (blkOk_by (own := [("digit", 8)]) (by rfl)) (fun _ _ _ _ _ => pdg_name (i := 8) nd rfl (.inl rfl)) (fun _ _ _ _ _ => pdts_nil) (fun _ _ _ _ _ => pde_sub (pdv (pde_neg (pdv (pde_int)))) (pdv_var 8))))
      (pdss_cons (pds_set (i := 6) nd rfl (.inl rfl) (pde_mod (pdv (pde_int1 (by rfl) T.z_int (pdr_cons (pdv (pde_ix (pdv_var 0) (pdv (pde_add (pdv_var 4) (pdv (pde_int)))))) (pdr_nil)))) (pdv (pde_add (pdv (pde_len (by rfl) T.z_len (pdr_cons (pdv_var 5) (pdr_nil)))) (pdv (pde_int))))))
      (pdss_cons (pds_set (i := 7) nd rfl (.inl rfl) (pde_o (pdo_lst (pda_cons (pde_add (pdv_var 3) (pdv (pde_int))) (pda_nil)))))
      (pdss_cons (pds_if (pdt_eq (pdv_var 3) (pdv (pde_sub (pdv_var 1) (pdv (pde_int)))))
        (pdss_one (pds_set (i := 7) nd rfl (.inl rfl) (pde_mul (pdv (pde_o (pdo_lst (pda_cons (pde_mod (pdv (pde_int1 (by rfl) T.z_int (pdr_cons (pdv (pde_ix (pdv_var 0) (pdv (pde_int)))) (pdr_nil)))) (pdv_var 1)) (pda_nil))))) (pdv (pde_int1 (by rfl) T.z_int (pdr_cons (pdv (pde_gt (pdv (pde_ix (pdv_var 0) (pdv (pde_int)))) (pdv (pde_int)))) (pdr_nil)))))))
        (pdss_nil))
      (pdss_one (pds_mut (i := 2) PySem.F.slot_list_append PySem.F.type_list_append mt_append mutd_app rfl (.inl rfl) (pda_cons (pde_tuple (by rfl) T.z_tuple (pdr_cons (pdv (pde_add (pdv (pde_add (pdv (pde_slice (pdv_var 5) pdp_none (pdp_some (pdv_var 6)))) (pdv_var 7))) (pdv (pde_slice (pdv_var 5) (pdp_some (pdv_var 6)) pdp_none)))) (pdr_nil))) (pda_nil))))))))))
    (pdss_one (pds_ret (pde_tuple (by rfl) T.z_tuple (pdr_cons (pdv_var 2) (pdr_nil))))))))
theorem ok_law_branched (T : Txt K mg) : FnOk PP w K mg base CX0 1 T.f_law_branched T.fd_law_branched ["kinds", "row", "count"] (spD K mg 3 d_law_branched) :=
  have nd := sc_law_branched.nd
  fn_ok T.F_law_branched sc_law_branched fun cdv A outer s H E hr =>
    (pdss_cons (pds_setN (i := 3) rfl nd rfl rfl (sw_true rfl rfl rfl (by decide +kernel)) (pdi_tup (pde_var 0)) (blkOk_by (own := [("kind", 7)]) (by rfl)) (fun _ _ _ _ _ => pdg_name (i := 7) nd rfl (.inl rfl)) (fun _ _ _ _ _ => pdts_nil) (fun _ _ _ _ _ => pdo_list (by rfl) T.z_list (pdr_cons (pdv_var 7) (pdr_nil))))
    (pdss_cons (pds_set (i := 4) nd rfl (.inl rfl) (pde_lenN 3 (by rfl) T.z_len rfl (.inl rfl)))
    (pdss_cons (pds_for PassesOwn.never rfl (pdi_range1 (by rfl) T.z_range (pdr_cons (pdv_var 2) (pdr_nil))) (pdg_name (i := 5) nd rfl (.inl rfl))
      (pdss_ins (t := 3) (l := 6) nd rfl (.inl rfl) rfl (.inl rfl) (.inl rfl) (by rfl) T.z_len (pdv (pde_mod (pdv (pde_int1 (by rfl) T.z_int (pdr_cons (pdv (pde_ix (pdv_var 1) (pdv (pde_mul (pdv (pde_int)) (pdv_var 5))))) (pdr_nil)))) (pdv_var 4))) (pda_cons (pde_mod (pdv (pde_int1 (by rfl) T.z_int (pdr_cons (pdv (pde_ix (pdv_var 1) (pdv (pde_add (pdv (pde_mul (pdv (pde_int)) (pdv_var 5))) (pdv (pde_int)))))) (pdr_nil)))) (pdv (pde_add (pdv (pde_len (by rfl) T.z_len (pdr_cons (pdv_var 6) (pdr_nil)))) (pdv (pde_int))))) (pda_cons (pde_mod (pdv (pde_int1 (by rfl) T.z_int (pdr_cons (pdv (pde_ix (pdv_var 1) (pdv (pde_add (pdv (pde_mul (pdv (pde_int)) (pdv_var 5))) (pdv (pde_int)))))) (pdr_nil)))) (pdv_var 4)) (pda_nil)))))
    (pdss_one (pds_frz 3 (pds_ret (pde_tuple (by rfl) T.z_tuple (pdr_cons (pdv (pde_o (pdo_lc rfl nd (pdi_lst (pde_var 3)) (blkOk_by (own := [("line", 6)]) (by rfl)) (fun _ _ _ _ _ => pdg_name (i := 6) nd rfl (.inl rfl)) (fun _ _ _ _ _ => pdts_nil) (fun _ _ _ _ _ => pde_tuple (by rfl) T.z_tuple (pdr_cons (pdv_var 6) (pdr_nil)))))) (pdr_nil)))))))))
theorem ok_law_bushy (T : Txt K mg) : FnOk PP w K mg base CX0 1 T.f_law_bushy T.fd_law_bushy ["row"] (spD K mg 1 d_law_bushy) :=
  have nd := sc_law_bushy.nd
  fn_ok T.F_law_bushy sc_law_bushy fun cdv A outer s H E hr =>
    (pdss_cons (pds_set (i := 1) nd rfl (.inr rfl) (pde_add (pdv (pde_int)) (pdv (pde_ix (pdv_var 0) (pdv (pde_int))))))
    (pdss_cons (pds_setO (i := 2) nd rfl (.inl rfl) (pdo_lst (pda_nil)))
    (pdss_cons (pds_for PassesOwn.never rfl (pdi_range1 (by rfl) T.z_range (pdr_cons (pdv_var 1) (pdr_nil))) (pdg_name (i := 3) nd rfl (.inl rfl))
      (pdss_cons (pds_set (i := 4) nd rfl (.inl rfl) (pde_add (pdv (pde_int)) (pdv (pde_mul (pdv (pde_int)) (pdv_var 3)))))
      (pdss_cons (pds_asgL (ps_setLcO (i := 5) rfl nd rfl rfl (sw_true rfl rfl rfl (by decide +kernel)) (pdi_lst (pde_slice (pdv_var 0) (pdp_some (pdv_var 4)) (pdp_some (pdv (pde_add (pdv (pde_add (pdv_var 4) (pdv (pde_int)))) (pdv (pde_int1 (by rfl) T.z_int (pdr_cons (pdv (pde_eq (pdv (pde_ix (pdv_var 0) (pdv (pde_add (pdv_var 4) (pdv (pde_int)))))) (pdv (pde_int)))) (pdr_nil))))))))) (blkOk_by (own := [("digit", 7)]) (by rfl)) (fun _ _ _ _ _ => pdg_name (i := 7) nd rfl (.inl rfl)) (fun _ _ _ _ _ => pdts_nil) (fun _ _ _ _ _ => pde_mod (pdv (pde_int1 (by rfl) T.z_int (pdr_cons (pdv_var 7) (pdr_nil)))) (pdv_var 1))))
      (pdss_cons (pds_set (i := 5) nd rfl (.inl rfl) (pde_add (pdv_var 5) (pdv (pde_o (pdo_lc rfl nd (pdi_lst (pde_slice (pdv_var 0) (pdp_some (pdv (pde_add (pdv_var 4) (pdv (pde_int))))) (pdp_some (pdv (pde_add (pdv (pde_add (pdv_var 4) (pdv (pde_int)))) (pdv (pde_mod (pdv (pde_int1 (by rfl) T.z_int (pdr_cons (pdv (pde_ix (pdv_var 0) (pdv (pde_add (pdv_var 4) (pdv (pde_int)))))) (pdr_nil)))) (pdv (pde_int))))))))) (blkOk_by (own := [("digit", 7)]) (by rfl)) (fun _ _ _ _ _ => pdg_name (i := 7) nd rfl (.inl rfl)) (fun _ _ _ _ _ => pdts_nil) (fun _ _ _ _ _ => pde_sub (pdv (pde_neg (pdv (pde_int)))) (pdv_var 7)))))))
      (pdss_cons (pds_set (i := 6) nd rfl (.inl rfl) (pde_mod (pdv (pde_div (pdv (pde_int1 (by rfl) T.z_int (pdr_cons (pdv (pde_ix (pdv_var 0) (pdv (pde_add (pdv_var 4) (pdv (pde_int)))))) (pdr_nil)))) (pdv (pde_int)))) (pdv (pde_len (by rfl) T.z_len (pdr_cons (pdv_var 5) (pdr_nil))))))
      (pdss_one (pds_mut (i := 2) PySem.F.slot_list_append PySem.F.type_list_append mt_append mutd_app rfl (.inl rfl) (pda_cons (pde_tuple (by rfl) T.z_tuple (pdr_cons (pdv (pde_add (pdv (pde_slice (pdv_var 5) (pdp_some (pdv_var 6)) pdp_none)) (pdv (pde_slice (pdv_var 5) pdp_none (pdp_some (pdv_var 6)))))) (pdr_nil))) (pda_nil)))))))))
    (pdss_one (pds_ret (pde_tuple (by rfl) T.z_tuple (pdr_cons (pdv_var 2) (pdr_nil))))))))
theorem ok_law_some (T : Txt K mg) : FnOk PP w K mg base CX0 3 T.f_law_some T.fd_law_some ["sort", "cell", "more"] (spD K mg 3 d_law_some) :=
  have nd := sc_law_some.nd
  fn_ok T.F_law_some sc_law_some fun cdv A outer s H E hr =>
    (pdss_cons (pds_if (pdt_lt (pdv_var 0) (pdv (pde_int)))
      (pdss_one (pds_ret (pde_call (ok_law_row T) (hr.mono (by decide)) (by rfl) T.g_law_row T.F_law_row.kp T.b_law_row (consA_len nilA_len) (pda_cons (pde_call (ok_law_digits T) (hr.mono (by decide)) (by rfl) T.g_law_digits T.F_law_digits.kp T.b_law_digits (consA_len (consA_len nilA_len)) (pda_cons (pde_var 1) (pda_cons (pde_call0 (ok_law_row_sizes T) (hr.mono (by decide)) (by rfl) T.g_law_row_sizes T.F_law_row_sizes.kp T.b_law_row_sizes) (pda_nil)))) (pda_nil)))))
      (pdss_nil))
    (pdss_cons (pds_if (pdt_lt (pdv_var 0) (pdv (pde_int)))
      (pdss_one (pds_ret (pde_call (ok_law_branched T) (hr.mono (by decide)) (by rfl) T.g_law_branched T.F_law_branched.kp T.b_law_branched (consA_len (consA_len (consA_len nilA_len))) (pda_cons (pde_call (ok_law_row T) (hr.mono (by decide)) (by rfl) T.g_law_row T.F_law_row.kp T.b_law_row (consA_len nilA_len) (pda_cons (pde_call (ok_law_digits T) (hr.mono (by decide)) (by rfl) T.g_law_digits T.F_law_digits.kp T.b_law_digits (consA_len (consA_len nilA_len)) (pda_cons (pde_var 1) (pda_cons (pde_call0 (ok_law_row_sizes T) (hr.mono (by decide)) (by rfl) T.g_law_row_sizes T.F_law_row_sizes.kp T.b_law_row_sizes) (pda_nil)))) (pda_nil))) (pda_cons (pde_var 2) (pda_cons (pde_sub (pdv_var 0) (pdv (pde_int))) (pda_nil)))))))
      (pdss_nil))
    (pdss_cons (pds_if (pdt_eq (pdv_var 0) (pdv (pde_int)))
      (pdss_one (pds_ret (pde_call (ok_law_bushy T) (hr.mono (by decide)) (by rfl) T.g_law_bushy T.F_law_bushy.kp T.b_law_bushy (consA_len nilA_len) (pda_cons (pde_call (ok_law_digits T) (hr.mono (by decide)) (by rfl) T.g_law_digits T.F_law_digits.kp T.b_law_digits (consA_len (consA_len nilA_len)) (pda_cons (pde_var 1) (pda_cons (pde_add (pdv (pde_o (pdo_lst (pda_cons (pde_int) (pda_nil))))) (pdv (pde_mul (pdv (pde_add (pdv (pde_add (pdv (pde_mul (pdv (pde_o (pdo_lst (pda_cons (pde_int) (pda_nil))))) (pdv (pde_int)))) (pdv (pde_mul (pdv (pde_o (pdo_lst (pda_cons (pde_int) (pda_nil))))) (pdv (pde_int)))))) (pdv (pde_o (pdo_lst (pda_cons (pde_int) (pda_cons (pde_int) (pda_nil)))))))) (pdv (pde_int))))) (pda_nil)))) (pda_nil)))))
      (pdss_nil))
    (pdss_cons (pds_set (i := 3) nd rfl (.inl rfl) (pde_ix (pdv (pde_o (pdo_lst (pda_cons (pde_int) (pda_cons (pde_int) (pda_nil)))))) (pdv (pde_sub (pdv_var 0) (pdv (pde_int))))))
    (pdss_cons (pds_set (i := 4) nd rfl (.inl rfl) (pde_ix (pdv (pde_o (pdo_lst (pda_cons (pde_int) (pda_cons (pde_int) (pda_nil)))))) (pdv (pde_sub (pdv_var 0) (pdv (pde_int))))))
    (pdss_cons (pds_set (i := 5) nd rfl (.inl rfl) (pde_call (ok_law_book T) (hr.mono (by decide)) (by rfl) T.g_law_book T.F_law_book.kp T.b_law_book (consA_len (consA_len (consA_len nilA_len))) (pda_cons (pde_call (ok_law_digits T) (hr.mono (by decide)) (by rfl) T.g_law_digits T.F_law_digits.kp T.b_law_digits (consA_len (consA_len nilA_len)) (pda_cons (pde_var 1) (pda_cons (pde_call (ok_law_book_sizes T) (hr.mono (by decide)) (by rfl) T.g_law_book_sizes T.F_law_book_sizes.kp T.b_law_book_sizes (consA_len (consA_len nilA_len)) (pda_cons (pde_var 3) (pda_cons (pde_var 4) (pda_nil)))) (pda_nil)))) (pda_cons (pde_var 3) (pda_cons (pde_var 4) (pda_nil))))))
    (pdss_cons (pds_if (pdt_eq (pdv (pde_len (by rfl) T.z_len (pdr_cons (pdv (pde_ix (pdv_var 5) (pdv (pde_int)))) (pdr_nil)))) (pdv (pde_int)))
      (pdss_one (pds_ret (pde_add (pdv (pde_tup (pda_cons (pde_tup (pda_cons (pde_sub (pdv (pde_len (by rfl) T.z_len (pdr_cons (pdv_var 5) (pdr_nil)))) (pdv (pde_int))) (pda_cons (pde_neg (pdv (pde_int))) (pda_nil)))) (pda_nil)))) (pdv (pde_slice (pdv_var 5) (pdp_some (pdv (pde_int))) pdp_none)))))
      (pdss_nil))
    (pdss_one (pds_ret (pde_var 5))))))))))
theorem ok_law_sum (T : Txt K mg) : FnOk PP w K mg base CX0 1 T.f_law_sum T.fd_law_sum ["left", "right"] (spD K mg 2 d_law_sum) :=
  have nd := sc_law_sum.nd
  fn_ok T.F_law_sum sc_law_sum fun cdv A outer s H E hr =>
    (pdss_cons (pds_set (i := 2) nd rfl (.inr rfl) (pde_add (pdv (pde_int)) (pdv (pde_len (by rfl) T.z_len (pdr_cons (pdv_var 0) (pdr_nil))))))
    (pdss_cons (pds_setO (i := 3) nd rfl (.inl rfl) (pdo_lst (pda_cons (pde_tup (pda_cons (pde_int) (pda_cons (pde_var 2) (pda_nil)))) (pda_nil))))
    (pdss_cons (pds_for PassesOwn.never rfl (pdi_tup (pde_var 0)) (pdg_name (i := 4) nd rfl (.inl rfl))
      (pdss_one (pds_mut (i := 3) PySem.F.slot_list_append PySem.F.type_list_append mt_append mutd_app rfl (.inl rfl) (pda_cons (pde_tuple (by rfl) T.z_tuple (pdr_cons (pdv (pde_o (pdo_lc rfl nd (pdi_tup (pde_var 4)) (blkOk_by (own := [("t", 5)]) (by rfl)) (fun _ _ _ _ _ => pdg_name (i := 5) nd rfl (.inl rfl)) (fun _ _ _ _ _ => pdts_nil) (fun _ _ _ _ _ => pde_ix (pdv (pde_o (pdo_lst (pda_cons (pde_var 5) (pda_cons (pde_add (pdv_var 5) (pdv (pde_int))) (pda_nil)))))) (pdv (pde_int1 (by rfl) T.z_int (pdr_cons (pdv (pde_ge (pdv_var 5) (pdv (pde_int)))) (pdr_nil)))))))) (pdr_nil))) (pda_nil)))))
    (pdss_cons (pds_for PassesOwn.never rfl (pdi_tup (pde_var 1)) (pdg_name (i := 4) nd rfl (.inl rfl))
      (pdss_one (pds_mut (i := 3) PySem.F.slot_list_append PySem.F.type_list_append mt_append mutd_app rfl (.inl rfl) (pda_cons (pde_tuple (by rfl) T.z_tuple (pdr_cons (pdv (pde_o (pdo_lc rfl nd (pdi_tup (pde_var 4)) (blkOk_by (own := [("t", 5)]) (by rfl)) (fun _ _ _ _ _ => pdg_name (i := 5) nd rfl (.inl rfl)) (fun _ _ _ _ _ => pdts_nil) (fun _ _ _ _ _ => pde_ix (pdv (pde_o (pdo_lst (pda_cons (pde_var 5) (pda_cons (pde_add (pdv_var 5) (pdv_var 2)) (pda_nil)))))) (pdv (pde_int1 (by rfl) T.z_int (pdr_cons (pdv (pde_ge (pdv_var 5) (pdv (pde_int)))) (pdr_nil)))))))) (pdr_nil))) (pda_nil)))))
    (pdss_one (pds_ret (pde_tuple (by rfl) T.z_tuple (pdr_cons (pdv_var 3) (pdr_nil)))))))))
theorem ok_law_fitting (T : Txt K mg) : FnOk PP w K mg base CX0 1 T.f_law_fitting T.fd_law_fitting ["kinds", "first", "deep", "limit"] (spD K mg 4 d_law_fitting) :=
  have nd := sc_law_fitting.nd
  fn_ok T.F_law_fitting sc_law_fitting fun cdv A outer s H E hr =>
    (pdss_cons (pds_set (i := 4) nd rfl (.inl rfl) (pde_mul (pdv (pde_o (pdo_lst (pda_cons (pde_tup (pda_cons (pde_int) (pda_cons (pde_int) (pda_nil)))) (pda_nil))))) (pdv (pde_len (by rfl) T.z_len (pdr_cons (pdv_var 0) (pdr_nil))))))
    (pdss_cons (pds_for PassesOwn.never rfl (pdi_range1 (by rfl) T.z_range (pdr_cons (pdv_var 2) (pdr_nil))) (pdg_name (i := 5) nd rfl (.inl rfl))
      (pdss_cons (pds_setO (i := 6) nd rfl (.inl rfl) (pdo_lst (pda_nil)))
      (pdss_cons (pds_for PassesOwn.never rfl (pdi_tup (pde_var 0)) (pdg_name (i := 7) nd rfl (.inl rfl))
        (pdss_cons (pds_set (i := 8) nd rfl (.inl rfl) (pde_len (by rfl) T.z_len (pdr_cons (pdv_var 7) (pdr_nil))))
        (pdss_cons (pds_set (i := 9) nd rfl (.inl rfl) (pde_len (by rfl) T.z_len (pdr_cons (pdv_var 7) (pdr_nil))))
        (pdss_cons (pds_for PassesOwn.never rfl (pdi_tup (pde_var 7)) (pdg_name (i := 10) nd rfl (.inl rfl))
          (pdss_one (pds_if (pdt_ge (pdv_var 10) (pdv (pde_int)))
            (pdss_cons (pds_set (i := 8) nd rfl (.inl rfl) (pde_sub (pdv (pde_add (pdv_var 8) (pdv (pde_ix (pdv (pde_ix (pdv_var 4) (pdv_var 10))) (pdv (pde_int)))))) (pdv (pde_int))))
            (pdss_one (pds_set (i := 9) nd rfl (.inl rfl) (pde_sub (pdv (pde_add (pdv (pde_add (pdv_var 9) (pdv (pde_ix (pdv (pde_ix (pdv_var 4) (pdv_var 10))) (pdv (pde_int)))))) (pdv (pde_ix (pdv (pde_ix (pdv_var 4) (pdv_var 10))) (pdv (pde_int)))))) (pdv (pde_int))))))
            (pdss_nil))))
        (pdss_one (pds_mut (i := 6) PySem.F.slot_list_append PySem.F.type_list_append mt_append mutd_app rfl (.inl rfl) (pda_cons (pde_tup (pda_cons (pde_var 8) (pda_cons (pde_var 9) (pda_nil)))) (pda_nil))))))))
      (pdss_cons (pds_frz 6 (pds_set (i := 4) nd rfl (.inl rfl) (pde_var 6)))
      (pdss_one (pds_if (pdt_gt (pdv (pde_sumA rfl (by rfl) T.z_sum (pdr_cons (pdv (pde_ix (pdv_var 4) (pdv_var 1))) (pdr_nil)))) (pdv_var 3))
        (pdss_one (pds_ret (pde_var 5)))
        (pdss_nil)))))))
    (pdss_one (pds_ret (pde_var 2)))))
theorem ok_law_front (T : Txt K mg) : FnOk PP w K mg base CX0 1 T.f_law_front T.fd_law_front ["kinds", "first", "deep"] (spD K mg 3 d_law_front) :=
  have nd := sc_law_front.nd
  fn_ok T.F_law_front sc_law_front fun cdv A outer s H E hr =>
    (pdss_cons (pds_set (i := 3) nd rfl (.inl rfl) (pde_o (pdo_lst (pda_cons (pde_tup (pda_cons (pde_tup (pda_nil)) (pda_cons (pde_var 1) (pda_nil)))) (pda_nil)))))
    (pdss_cons (pds_for PassesOwn.never rfl (pdi_range1 (by rfl) T.z_range (pdr_cons (pdv_var 2) (pdr_nil))) (pdg_name (i := 4) nd rfl (.inl rfl))
      (pdss_cons (pds_setO (i := 5) nd rfl (.inl rfl) (pdo_lst (pda_nil)))
      (pdss_cons (pds_for PassesOwn.never rfl (pdi_lst (pde_var 3)) (pdg_name (i := 6) nd rfl (.inl rfl))
        (pdss_one (pds_if (pdt_lt (pdv (pde_ix (pdv_var 6) (pdv (pde_int)))) (pdv (pde_int)))
          (pdss_one (pds_mut (i := 5) PySem.F.slot_list_append PySem.F.type_list_append mt_append mutd_app rfl (.inl rfl) (pda_cons (pde_var 6) (pda_nil))))
          (pdss_cons (pds_set (i := 7) nd rfl (.inl rfl) (pde_ix (pdv_var 0) (pdv (pde_ix (pdv_var 6) (pdv (pde_int))))))
          (pdss_one (pds_for PassesOwn.never rfl (pdi_range1 (by rfl) T.z_range (pdr_cons (pdv (pde_len (by rfl) T.z_len (pdr_cons (pdv_var 7) (pdr_nil)))) (pdr_nil))) (pdg_name (i := 8) nd rfl (.inl rfl))
            (pdss_one (pds_mut (i := 5) PySem.F.slot_list_append PySem.F.type_list_append mt_append mutd_app rfl (.inl rfl) (pda_cons (pde_tup (pda_cons (pde_add (pdv (pde_ix (pdv_var 6) (pdv (pde_int)))) (pdv (pde_tup (pda_cons (pde_var 8) (pda_nil))))) (pda_cons (pde_ix (pdv_var 7) (pdv_var 8)) (pda_nil)))) (pda_nil))))))))))
      (pdss_one (pds_set (i := 3) nd rfl (.inl rfl) (pde_o (pdo_list (by rfl) T.z_list (pdr_cons (pdv_var 5) (pdr_nil)))))))))
    (pdss_one (pds_ret (pde_var 3)))))
theorem ok_law_same_row (T : Txt K mg) : FnOk PP w K mg base CX0 2 T.f_law_same_row T.fd_law_same_row ["told", "due"] (spD K mg 2 d_law_same_row) :=
  have nd := sc_law_same_row.nd
  fn_ok T.F_law_same_row sc_law_same_row fun cdv A outer s H E hr =>
    (pdss_cons (pds_if (pdt_w (pdw_or (pdt_not (pdt_val (pde_isT (t := "tuple") (by decide) (by rfl) T.z_isinstance (by rfl) T.z_tuple (by decide +kernel) (pdv_var 0)))) (pdw_or1 (pdt_ne (pdv (pde_len (by rfl) T.z_len (pdr_cons (pdv_var 0) (pdr_nil)))) (pdv (pde_len (by rfl) T.z_len (pdr_cons (pdv_var 1) (pdr_nil))))))))
      (pdss_one (pds_ret (pde_bl)))
      (pdss_nil))
    (pdss_cons (pds_for PassesOwn.never rfl (pdi_range1 (by rfl) T.z_range (pdr_cons (pdv (pde_len (by rfl) T.z_len (pdr_cons (pdv_var 1) (pdr_nil)))) (pdr_nil))) (pdg_name (i := 2) nd rfl (.inl rfl))
      (pdss_one (pds_if (pdt_w (pdw_or (pdt_not (pdt_val (pde_call (ok_law_whole T) (hr.mono (by decide)) (by rfl) T.g_law_whole T.F_law_whole.kp T.b_law_whole (consA_len nilA_len) (pda_cons (pde_ix (pdv_var 0) (pdv_var 2)) (pda_nil))))) (pdw_or1 (pdt_ne (pdv (pde_ix (pdv_var 0) (pdv_var 2))) (pdv (pde_ix (pdv_var 1) (pdv_var 2)))))))
        (pdss_one (pds_ret (pde_bl)))
        (pdss_nil))))
    (pdss_one (pds_ret (pde_bl)))))
theorem ok_law_same_rows (T : Txt K mg) : FnOk PP w K mg base CX0 3 T.f_law_same_rows T.fd_law_same_rows ["told", "due"] (spD K mg 2 d_law_same_rows) :=
  have nd := sc_law_same_rows.nd
  fn_ok T.F_law_same_rows sc_law_same_rows fun cdv A outer s H E hr =>
    (pdss_cons (pds_if (pdt_w (pdw_or (pdt_not (pdt_val (pde_isT (t := "tuple") (by decide) (by rfl) T.z_isinstance (by rfl) T.z_tuple (by decide +kernel) (pdv_var 0)))) (pdw_or1 (pdt_ne (pdv (pde_len (by rfl) T.z_len (pdr_cons (pdv_var 0) (pdr_nil)))) (pdv (pde_len (by rfl) T.z_len (pdr_cons (pdv_var 1) (pdr_nil))))))))
      (pdss_one (pds_ret (pde_bl)))
      (pdss_nil))
    (pdss_cons (pds_for PassesOwn.never rfl (pdi_range1 (by rfl) T.z_range (pdr_cons (pdv (pde_len (by rfl) T.z_len (pdr_cons (pdv_var 1) (pdr_nil)))) (pdr_nil))) (pdg_name (i := 2) nd rfl (.inl rfl))
      (pdss_one (pds_if (pdt_not (pdt_val (pde_call (ok_law_same_row T) (hr.mono (by decide)) (by rfl) T.g_law_same_row T.F_law_same_row.kp T.b_law_same_row (consA_len (consA_len nilA_len)) (pda_cons (pde_ix (pdv_var 0) (pdv_var 2)) (pda_cons (pde_ix (pdv_var 1) (pdv_var 2)) (pda_nil))))))
        (pdss_one (pds_ret (pde_bl)))
        (pdss_nil))))
    (pdss_one (pds_ret (pde_bl)))))
theorem ok_law_is_front (T : Txt K mg) : FnOk PP w K mg base CX0 4 T.f_law_is_front T.fd_law_is_front ["book", "kinds", "first", "deep", "named"] (spD K mg 5 d_law_is_front) :=
  have nd := sc_law_is_front.nd
  fn_ok T.F_law_is_front sc_law_is_front fun cdv A outer s H E hr =>
    (pdss_cons (pds_set (i := 5) nd rfl (.inl rfl) (pde_call (ok_law_front T) (hr.mono (by decide)) (by rfl) T.g_law_front T.F_law_front.kp T.b_law_front (consA_len (consA_len (consA_len nilA_len))) (pda_cons (pde_var 1) (pda_cons (pde_var 2) (pda_cons (pde_var 3) (pda_nil))))))
    (pdss_cons (pds_setO (i := 6) nd rfl (.inl rfl) (pdo_lst (pda_cons (pde_int) (pda_cons (pde_int) (pda_cons (pde_int) (pda_cons (pde_int) (pda_nil)))))))
    (pdss_cons (pds_for PassesOwn.never rfl (pdi_lst (pde_var 5)) (pdg_name (i := 7) nd rfl (.inl rfl))
      (pdss_one (pds_setix (i := 6) rfl (.inl rfl) (pde_add (pdv (pde_ix (pdv_var 6) (pdv (pde_max2 rfl (by rfl) T.z_max (pdr_cons (pdv (pde_int)) (pdr_cons (pdv (pde_neg (pdv (pde_ix (pdv_var 7) (pdv (pde_int)))))) (pdr_nil))))))) (pdv (pde_int))) (pdv (pde_max2 rfl (by rfl) T.z_max (pdr_cons (pdv (pde_int)) (pdr_cons (pdv (pde_neg (pdv (pde_ix (pdv_var 7) (pdv (pde_int)))))) (pdr_nil))))))))
    (pdss_cons (pds_if (pdt_w (pdw_or (pdt_val (pde_var 4)) (pdw_or1 (pdt_gt (pdv_var 2) (pdv (pde_int))))))
      (pdss_cons (pds_set (i := 8) nd rfl (.inl rfl) (pde_callK (ok_front T) (hr.mono (by decide)) (by rfl) T.g_front T.F_front.kp T.kb_front (consA_len (consA_len nilA_len)) (consA_len nilA_len) (pda_cons (pde_var 0) (pda_cons (pde_var 3) (pda_nil))) (pdk_cons (pde_var 2) (pdk_nil))))
      (pdss_one (pds_set (i := 9) nd rfl (.inl rfl) (pde_callK (ok_count_front T) (hr.mono (by decide)) (by rfl) T.g_count_front T.F_count_front.kp T.kb_count_front (consA_len (consA_len nilA_len)) (consA_len nilA_len) (pda_cons (pde_var 0) (pda_cons (pde_var 3) (pda_nil))) (pdk_cons (pde_var 2) (pdk_nil))))))
      (pdss_cons (pds_set (i := 8) nd rfl (.inl rfl) (pde_callDf (ok_front T) (hr.mono (by decide)) (by rfl) T.g_front T.F_front.kp T.v_front T.b_front (fun _ => dfr_front) (fun _ _ e => by rw [(consA_len (consA_len nilA_len)) _ _ e]; rfl) (pda_cons (pde_var 0) (pda_cons (pde_var 3) (pda_nil)))))
      (pdss_one (pds_set (i := 9) nd rfl (.inl rfl) (pde_callDf (ok_count_front T) (hr.mono (by decide)) (by rfl) T.g_count_front T.F_count_front.kp T.v_count_front T.b_count_front (fun _ => dfr_count_front) (fun _ _ e => by rw [(consA_len (consA_len nilA_len)) _ _ e]; rfl) (pda_cons (pde_var 0) (pda_cons (pde_var 3) (pda_nil))))))))
    (pdss_one (pds_frz 6 (pds_ret (pde_and (pde_call (ok_law_same_rows T) (hr.mono (by decide)) (by rfl) T.g_law_same_rows T.F_law_same_rows.kp T.b_law_same_rows (consA_len (consA_len nilA_len)) (pda_cons (pde_var 8) (pda_cons (pde_o (pdo_lc rfl nd (pdi_lst (pde_var 5)) (blkOk_by (own := [("pair", 7)]) (by rfl)) (fun _ _ _ _ _ => pdg_name (i := 7) nd rfl (.inl rfl)) (fun _ _ _ _ _ => pdts_nil) (fun _ _ _ _ _ => pde_ix (pdv_var 7) (pdv (pde_int))))) (pda_nil)))) (pde_one (pde_call (ok_law_same_row T) (hr.mono (by decide)) (by rfl) T.g_law_same_row T.F_law_same_row.kp T.b_law_same_row (consA_len (consA_len nilA_len)) (pda_cons (pde_var 9) (pda_cons (pde_var 6) (pda_nil)))))))))))))
theorem ok_law_asked (T : Txt K mg) : FnOk PP w K mg base CX0 2 T.f_law_asked T.fd_law_asked ["kinds", "row", "limit", "count"] (spD K mg 4 d_law_asked) :=
  have nd := sc_law_asked.nd
  fn_ok T.F_law_asked sc_law_asked fun cdv A outer s H E hr =>
    (pdss_cons (pds_set (i := 4) nd rfl (.inl rfl) (pde_len (by rfl) T.z_len (pdr_cons (pdv_var 0) (pdr_nil))))
    (pdss_cons (pds_set (i := 5) nd rfl (.inl rfl) (pde_min2 rfl (by rfl) T.z_min (pdr_cons (pdv (pde_int)) (pdr_cons (pdv (pde_ix (pdv_var 1) (pdv (pde_int)))) (pdr_nil)))))
    (pdss_cons (pds_set (i := 6) nd rfl (.inl rfl) (pde_call (ok_law_fitting T) (hr.mono (by decide)) (by rfl) T.g_law_fitting T.F_law_fitting.kp T.b_law_fitting (consA_len (consA_len (consA_len (consA_len nilA_len)))) (pda_cons (pde_var 0) (pda_cons (pde_int) (pda_cons (pde_var 5) (pda_cons (pde_var 2) (pda_nil)))))))
    (pdss_cons (pds_set (i := 7) nd rfl (.inl rfl) (pde_mod (pdv (pde_int1 (by rfl) T.z_int (pdr_cons (pdv (pde_ix (pdv_var 1) (pdv (pde_int)))) (pdr_nil)))) (pdv_var 4)))
    (pdss_cons (pds_set (i := 8) nd rfl (.inl rfl) (pde_mod (pdv (pde_int1 (by rfl) T.z_int (pdr_cons (pdv (pde_ix (pdv_var 1) (pdv (pde_int)))) (pdr_nil)))) (pdv_var 4)))
    (pdss_cons (pds_setO (i := 9) nd rfl (.inl rfl) (pdo_lst (pda_cons (pde_tup (pda_cons (pde_int) (pda_cons (pde_var 6) (pda_cons (pde_eq (pdv (pde_ix (pdv_var 1) (pdv (pde_int)))) (pdv (pde_int))) (pda_nil))))) (pda_cons (pde_tup (pda_cons (pde_var 7) (pda_cons (pde_call (ok_law_fitting T) (hr.mono (by decide)) (by rfl) T.g_law_fitting T.F_law_fitting.kp T.b_law_fitting (consA_len (consA_len (consA_len (consA_len nilA_len)))) (pda_cons (pde_var 0) (pda_cons (pde_var 7) (pda_cons (pde_var 5) (pda_cons (pde_var 2) (pda_nil)))))) (pda_cons (pde_bl) (pda_nil))))) (pda_cons (pde_tup (pda_cons (pde_int) (pda_cons (pde_max2 rfl (by rfl) T.z_max (pdr_cons (pdv (pde_int)) (pdr_cons (pdv (pde_sub (pdv_var 6) (pdv (pde_int)))) (pdr_nil)))) (pda_cons (pde_bl) (pda_nil))))) (pda_nil))))))
    (pdss_cons (pds_mut (i := 9) PySem.F.slot_list_append PySem.F.type_list_append mt_append mutd_app rfl (.inl rfl) (pda_cons (pde_tup (pda_cons (pde_int) (pda_cons (pde_mod (pdv (pde_int1 (by rfl) T.z_int (pdr_cons (pdv (pde_ix (pdv_var 1) (pdv (pde_int)))) (pdr_nil)))) (pdv (pde_add (pdv_var 6) (pdv (pde_int))))) (pda_cons (pde_gt (pdv (pde_ix (pdv_var 1) (pdv (pde_int)))) (pdv (pde_int))) (pda_nil))))) (pda_nil)))
    (pdss_cons (pds_mut (i := 9) PySem.F.slot_list_append PySem.F.type_list_append mt_append mutd_app rfl (.inl rfl) (pda_cons (pde_tup (pda_cons (pde_var 8) (pda_cons (pde_call (ok_law_fitting T) (hr.mono (by decide)) (by rfl) T.g_law_fitting T.F_law_fitting.kp T.b_law_fitting (consA_len (consA_len (consA_len (consA_len nilA_len)))) (pda_cons (pde_var 0) (pda_cons (pde_var 8) (pda_cons (pde_ix (pdv_var 1) (pdv (pde_int))) (pda_cons (pde_var 2) (pda_nil)))))) (pda_cons (pde_bl) (pda_nil))))) (pda_nil)))
    (pdss_one (pds_ret (pde_slice (pdv_var 9) pdp_none (pdp_some (pdv_var 3)))))))))))))
theorem ok_law (T : Txt K mg) : FnOk PP w K mg base CX0 8 T.f_law T.fd_law ["script"] (spD K mg 1 d_law) :=
  have nd := sc_law.nd
  fn_ok T.F_law sc_law fun cdv A outer s H E hr =>
    (pdss_cons (pds_set (i := 1) nd rfl (.inl rfl) (pde_call (ok_law_digits T) (hr.mono (by decide)) (by rfl) T.g_law_digits T.F_law_digits.kp T.b_law_digits (consA_len (consA_len nilA_len)) (pda_cons (pde_call (ok_law_cell T) (hr.mono (by decide)) (by rfl) T.g_law_cell T.F_law_cell.kp T.b_law_cell (consA_len (consA_len nilA_len)) (pda_cons (pde_var 0) (pda_cons (pde_int) (pda_nil)))) (pda_cons (pde_o (pdo_lst (pda_cons (pde_int) (pda_cons (pde_int) (pda_cons (pde_int) (pda_nil)))))) (pda_nil)))))
    (pdss_cons (pds_set (i := 2) nd rfl (.inl rfl) (pde_ix (pdv (pde_o (pdo_lst (pda_cons (pde_int) (pda_cons (pde_int) (pda_cons (pde_int) (pda_cons (pde_int) (pda_cons (pde_int) (pda_cons (pde_int) (pda_cons (pde_int) (pda_cons (pde_int) (pda_nil)))))))))))) (pdv (pde_ix (pdv_var 1) (pdv (pde_int))))))
    (pdss_cons (pds_setO (i := 3) nd rfl (.inl rfl) (pdo_lst (pda_nil)))
    (pdss_cons (pds_setO (i := 4) nd rfl (.inl rfl) (pdo_lst (pda_nil)))
    (pdss_cons (pds_for PassesOwn.never rfl (pdi_range1 (by rfl) T.z_range (pdr_cons (pdv (pde_int)) (pdr_nil))) (pdg_name (i := 5) nd rfl (.inl rfl))
      (pdss_cons (pds_set (i := 6) nd rfl (.inl rfl) (pde_call (ok_law_digits T) (hr.mono (by decide)) (by rfl) T.g_law_digits T.F_law_digits.kp T.b_law_digits (consA_len (consA_len nilA_len)) (pda_cons (pde_call (ok_law_cell T) (hr.mono (by decide)) (by rfl) T.g_law_cell T.F_law_cell.kp T.b_law_cell (consA_len (consA_len nilA_len)) (pda_cons (pde_var 0) (pda_cons (pde_add (pdv (pde_int)) (pdv_var 5)) (pda_nil)))) (pda_cons (pde_mul (pdv (pde_o (pdo_lst (pda_cons (pde_int) (pda_cons (pde_int) (pda_cons (pde_int) (pda_nil))))))) (pdv (pde_int))) (pda_nil)))))
      (pdss_one (pds_mut (i := 3) PySem.F.slot_list_append PySem.F.type_list_append mt_append mutd_app rfl (.inl rfl) (pda_cons (pde_call (ok_law_some T) (hr.mono (by decide)) (by rfl) T.g_law_some T.F_law_some.kp T.b_law_some (consA_len (consA_len (consA_len nilA_len))) (pda_cons (pde_ix (pdv_var 1) (pdv_var 5)) (pda_cons (pde_call (ok_law_cell T) (hr.mono (by decide)) (by rfl) T.g_law_cell T.F_law_cell.kp T.b_law_cell (consA_len (consA_len nilA_len)) (pda_cons (pde_var 0) (pda_cons (pde_add (pdv (pde_int)) (pdv_var 5)) (pda_nil)))) (pda_cons (pde_var 6) (pda_nil))))) (pda_nil))))))
    (pdss_cons (pds_mut (i := 3) PySem.F.slot_list_append PySem.F.type_list_append mt_append mutd_app rfl (.inl rfl) (pda_cons (pde_call (ok_law_sum T) (hr.mono (by decide)) (by rfl) T.g_law_sum T.F_law_sum.kp T.b_law_sum (consA_len (consA_len nilA_len)) (pda_cons (pde_ix (pdv_var 3) (pdv (pde_int))) (pda_cons (pde_ix (pdv_var 3) (pdv (pde_int))) (pda_nil)))) (pda_nil)))
    (pdss_cons (pds_for PassesOwn.never rfl (pdi_range1 (by rfl) T.z_range (pdr_cons (pdv (pde_int)) (pdr_nil))) (pdg_name (i := 5) nd rfl (.inl rfl))
      (pdss_cons (pds_set (i := 7) nd rfl (.inl rfl) (pde_call (ok_law_digits T) (hr.mono (by decide)) (by rfl) T.g_law_digits T.F_law_digits.kp T.b_law_digits (consA_len (consA_len nilA_len)) (pda_cons (pde_call (ok_law_cell T) (hr.mono (by decide)) (by rfl) T.g_law_cell T.F_law_cell.kp T.b_law_cell (consA_len (consA_len nilA_len)) (pda_cons (pde_var 0) (pda_cons (pde_add (pdv (pde_int)) (pdv_var 5)) (pda_nil)))) (pda_cons (pde_o (pdo_lst (pda_cons (pde_int) (pda_cons (pde_int) (pda_cons (pde_int) (pda_cons (pde_int) (pda_cons (pde_int) (pda_cons (pde_int) (pda_nil))))))))) (pda_nil)))))
      (pdss_one (pds_mut (i := 4) PySem.F.slot_list_append PySem.F.type_list_append mt_append mutd_app rfl (.inl rfl) (pda_cons (pde_call (ok_law_asked T) (hr.mono (by decide)) (by rfl) T.g_law_asked T.F_law_asked.kp T.b_law_asked (consA_len (consA_len (consA_len (consA_len nilA_len)))) (pda_cons (pde_ix (pdv_var 3) (pdv_var 5)) (pda_cons (pde_var 7) (pda_cons (pde_var 2) (pda_cons (pde_ix (pdv (pde_o (pdo_lst (pda_cons (pde_int) (pda_cons (pde_int) (pda_cons (pde_int) (pda_nil))))))) (pdv_var 5)) (pda_nil)))))) (pda_nil))))))
    (pdss_cons (pds_setN (i := 8) rfl nd rfl rfl (sw_true rfl rfl rfl (by decide +kernel)) (pdi_tup (pde_ix (pdv_var 3) (pdv (pde_int)))) (blkOk_by (own := [("kind", 12)]) (by rfl)) (fun _ _ _ _ _ => pdg_name (i := 12) nd rfl (.inl rfl)) (fun _ _ _ _ _ => pdts_nil) (fun _ _ _ _ _ => pdo_list (by rfl) T.z_list (pdr_cons (pdv_var 12) (pdr_nil))))
    (pdss_cons (pds_setO (i := 9) nd rfl (.inl rfl) (pdo_lst (pda_cons (pde_make T.M_Book (ok_Book_init T) (hr.mono (by decide)) (by rfl) T.g_Book T.b_Book_init i_Book_ok (fun _ _ e => by rw [(consA_len nilA_len) _ _ e]; rfl) (pdbs_cons (pdb_var 8) (pdbs_nil))) (pda_cons (pde_make T.M_Book (ok_Book_init T) (hr.mono (by decide)) (by rfl) T.g_Book T.b_Book_init i_Book_ok (fun _ _ e => by rw [(consA_len nilA_len) _ _ e]; rfl) (pdbs_cons (pdb (pdv (pde_ix (pdv_var 3) (pdv (pde_int))))) (pdbs_nil))) (pda_nil)))))
    (pdss_cons (pds_nap (i := 8) PySem.F.slot_list_append PySem.F.type_list_append mt_append mutd_app rfl (.inl rfl) (pdv (pde_int)) (pda_cons (pde_int) (pda_nil)))
    (pdss_cons (pds_nxa (i := 8) rfl (.inl rfl) (pdo_lst (pda_cons (pde_neg (pdv (pde_int))) (pda_nil))))
    (pdss_cons (pds_mut (i := 9) PySem.F.slot_list_append PySem.F.type_list_append mt_append mutd_app rfl (.inl rfl) (pda_cons (pde_own2 (ok_Book_add T) (hr.mono (by decide)) T.g_Book T.b_Book_add T.s_Book_add T.i_Book_add T.sf_Book (pde_ix (pdv_var 9) (pdv (pde_int))) (pde_ix (pdv_var 9) (pdv (pde_int)))) (pda_nil)))
    (pdss_cons (pds_for PassesOwn.never rfl (pdi_lst (pde_o (pdo_lst (pda_cons (pde_int) (pda_cons (pde_int) (pda_cons (pde_int) (pda_cons (pde_int) (pda_cons (pde_int) (pda_cons (pde_int) (pda_nil)))))))))) (pdg_name (i := 10) nd rfl (.inl rfl))
      (pdss_one (pds_for PassesOwn.never rfl (pdi_range1 (by rfl) T.z_range (pdr_cons (pdv (pde_int)) (pdr_nil))) (pdg_name (i := 5) nd rfl (.inl rfl))
        (pdss_one (pds_if (pdt_lt (pdv_var 10) (pdv (pde_len (by rfl) T.z_len (pdr_cons (pdv (pde_ix (pdv_var 4) (pdv_var 5))) (pdr_nil)))))
          (pdss_cons (pds_set (i := 11) nd rfl (.inl rfl) (pde_ix (pdv (pde_ix (pdv_var 4) (pdv_var 5))) (pdv_var 10)))
          (pdss_one (pds_if (pdt_not (pdt_val (pde_call (ok_law_is_front T) (hr.mono (by decide)) (by rfl) T.g_law_is_front T.F_law_is_front.kp T.b_law_is_front (consA_len (consA_len (consA_len (consA_len (consA_len nilA_len))))) (pda_cons (pde_ix (pdv_var 9) (pdv_var 5)) (pda_cons (pde_ix (pdv_var 3) (pdv_var 5)) (pda_cons (pde_ix (pdv_var 11) (pdv (pde_int))) (pda_cons (pde_ix (pdv_var 11) (pdv (pde_int))) (pda_cons (pde_ix (pdv_var 11) (pdv (pde_int))) (pda_nil)))))))))
            (pdss_one (pds_ret (pde_bl)))
            (pdss_nil))))
          (pdss_nil))))))
    (pdss_cons (pds_for PassesOwn.never rfl (pdi_range1 (by rfl) T.z_range (pdr_cons (pdv (pde_int)) (pdr_nil))) (pdg_name (i := 5) nd rfl (.inl rfl))
      (pdss_one (pds_if (pdt_w (pdw_or (pdt_not (pdt_val (pde_isC T.ci_Book (by rfl) T.z_isinstance (by rfl) T.g_Book (pdv (pde_ix (pdv_var 9) (pdv_var 5)))))) (pdw_or1 (pdt_not (pdt_val (pde_call (ok_law_same_rows T) (hr.mono (by decide)) (by rfl) T.g_law_same_rows T.F_law_same_rows.kp T.b_law_same_rows (consA_len (consA_len nilA_len)) (pda_cons (pde_fld T.g_Book T.cl_Book T.na_Book_kinds (pde_ix (pdv_var 9) (pdv_var 5))) (pda_cons (pde_ix (pdv_var 3) (pdv_var 5)) (pda_nil)))))))))
        (pdss_one (pds_ret (pde_bl)))
        (pdss_nil))))
    (pdss_one (pds_ret (pde_bl)))))))))))))))))
end
end DL
namespace DL
open PySem L2
@[simp] theorem y_law_whole (i : Int) : d_law_whole [.int i] = some (.bl true) := by rfl
@[simp] theorem y_is_whole (i : Int) : d_is_whole [.int i] = some (.bl true) := by rfl
theorem y_law_cell (ns : List Int) (k : Nat) (hk : k < 100) : wo (d_law_cell [.scr ns, .int k]) fun d => ∃ c : Int, d = .int c := by
  apply fnD_of
  simp
  refine ⟨fun h => ?_, fun h => ?_⟩
  · rw [atI_nat h, List.getElem?_eq_getElem h]
    simp
  · apply wp_for (fun _ r => ∃ (s : Int) (c : LV), r = [.sh (.scr ns), .sh (.int k), .sh (.int s), c] ∧ 0 ≤ s ∧ s < 1000003)
    simp
    refine ⟨?_, ?_⟩
    · rintro i _ d hd s c rfl h1 h2
      simp [b_law_cell_1]
      refine ⟨cm_of (by omega) (by omega), by omega, by omega⟩
    · rintro _ s c rfl h1 h2
      simp
      refine ⟨cm_of (by omega) (by omega), cm_of ?_ (by omega)⟩
      have h3 : (s + 7) * ((k : Int) + 3) ≤ (s + 7) * 200 := Int.mul_le_mul_of_nonneg_left (by omega) (by omega)
      have h4 : 0 ≤ (s + 7) * ((k : Int) + 3) := Int.mul_nonneg (by omega) (by omega)
      omega
def Fits (row sizes : List Int) : Prop := row.length = sizes.length ∧ ∀ (i : Nat) (s : Int), sizes[i]? = some s → ∃ x : Int, row[i]? = some x ∧ 0 ≤ x ∧ x < s
def FitsTo (k : Nat) (row sizes : List Int) : Prop := row.length = k ∧ ∀ (i : Nat) (s : Int), i < k → sizes[i]? = some s → ∃ x : Int, row[i]? = some x ∧ 0 ≤ x ∧ x < s
theorem FitsTo.push {k : Nat} {row sizes : List Int} {s x : Int} (h : FitsTo k row sizes) (hs : sizes[k]? = some s) (h0 : 0 ≤ x) (h1 : x < s) : FitsTo (k + 1) (row ++ [x]) sizes := by
  obtain ⟨rfl, h⟩ := h
  refine ⟨by simp, fun i t hi ht => ?_⟩
  by_cases e : i < row.length
  · rw [List.getElem?_append_left e]
    exact h i t e ht
  · have : i = row.length := by omega
    subst this
    rw [hs] at ht
    cases ht
    exact ⟨x, by simp, h0, h1⟩
theorem y_law_digits (c : Int) (sizes : List Int) (hs : ∀ s ∈ sizes, 0 < s ∧ s < 1073741824) (hl : sizes.length < 100000) : wo (d_law_digits [.int c, .lst (sizes.map .int)]) fun d => ∃ row : List Int, d = .lst (row.map .int) ∧ Fits row sizes := by
  apply fnD_of
  simp
  apply wp_for (fun k r => ∃ (row : List Int) (seed rest : Int) (x5 x6 : LV), r = [.sh (.int c), .sh (.lst (sizes.map .int)), .ow (row.map .int), .sh (.int seed), .sh (.int rest), x5, x6] ∧ 0 ≤ seed ∧ seed < 2147483647 ∧ FitsTo k row sizes)
  simp
  refine ⟨by omega, ⟨[], _, ⟨rfl, rfl⟩, by omega, by omega, rfl, fun i s h => by omega⟩, ?_, ?_⟩
  · rintro k _ d hd row seed rest x5 x6 rfl h1 h2 h3
    obtain ⟨rfl, h4⟩ := rng_get hd
    have hk : k < sizes.length := by omega
    have hg := List.getElem?_eq_getElem hk
    obtain ⟨hs0, hs1⟩ := hs _ (List.getElem_mem hk)
    have hr := h3.1
    simp [b_law_digits_1, atI_int hg]
    refine ⟨cm_of (by omega) (by omega), cm_of (by omega) (by omega), cm_of (by omega) (by omega), fun hp => ?_, fun hp => ?_⟩
    · refine ⟨hs0, by omega, ⟨hs0, hs1⟩, row ++ [_], _, ⟨by simp; rfl, rfl⟩, by omega, by omega, h3.push hg (Int.emod_nonneg _ (by omega)) (Int.emod_lt_of_pos _ hs0)⟩
    · refine ⟨hs0, by omega, row ++ [_], _, ⟨by simp; rfl, rfl⟩, by omega, by omega, h3.push hg (Int.emod_nonneg _ (by omega)) (Int.emod_lt_of_pos _ hs0)⟩
  · rintro _ row seed rest x5 x6 rfl h1 h2 h3
    simp [frz]
    exact ⟨row, rfl, by simpa using h3.1, fun i s hi => h3.2 i s (by have := (List.getElem?_eq_some_iff.mp hi).1; simpa using this) hi⟩
theorem Fits.get {row sizes : List Int} (h : Fits row sizes) {i : Int} {s : Int} (h0 : 0 ≤ i) (hs : sizes[i.toNat]? = some s) : ∃ x : Int, atI (row.map D.int) i = some (.int x) ∧ 0 ≤ x ∧ x < s := by
  obtain ⟨x, e, h1, h2⟩ := h.2 _ _ hs
  exact ⟨x, atI_val h0 e, h1, h2⟩
def dK (k : List Int) : D := .tup (k.map .int)
def dKs (ks : List (List Int)) : D := .tup (ks.map dK)
structure KOK (m n : Nat) (ks : List (List Int)) : Prop where
  ne : 0 < ks.length
  le : ks.length ≤ m
  ok : ∀ k ∈ ks, k.length ≤ n ∧ ∀ t ∈ k, -3 ≤ t ∧ t < ks.length
theorem y_law_target (g k m j : Int) (hg : 0 ≤ g) (hk : 0 ≤ k) (hkm : k < m) (hm : m < 10000) (hj : 0 ≤ j) : wo (d_law_target [.int g, .int k, .int m, .int j]) fun d => ∃ t : Int, d = .int t ∧ -3 ≤ t ∧ t < m := by
  apply fnD_of
  have r0 : 0 ≤ g % (m + 3) := Int.emod_nonneg _ (by omega)
  have r1 : g % (m + 3) < m + 3 := Int.emod_lt_of_pos _ (by omega)
  simp
  generalize g % (m + 3) = r at *
  generalize g / (m + 3) % 8 = w at *
  have hA : r < 3 → wo (atI [D.int (-2), D.int (-1), D.int (-3)] r) fun d => ∃ t, d = D.int t ∧ -3 ≤ t ∧ t < m := fun h3 => by
    obtain rfl | rfl | rfl : r = 0 ∨ r = 1 ∨ r = 2 := by omega
    all_goals simp [atI, ixN]; omega
  have hB : wo (atI [D.int k, D.int (-2), D.int k, D.int (-1), D.int (-2)] (r % 5)) fun d => ∃ t, d = D.int t ∧ -3 ≤ t ∧ t < m := by
    obtain h | h | h | h | h : r % 5 = 0 ∨ r % 5 = 1 ∨ r % 5 = 2 ∨ r % 5 = 3 ∨ r % 5 = 4 := by omega
    all_goals simp [h, atI, ixN]; omega
  have hC : k < m - 1 → 0 ≤ r % (m - k - 1) ∧ r % (m - k - 1) < m - k - 1 := fun h => ⟨Int.emod_nonneg _ (by omega), Int.emod_lt_of_pos _ (by omega)⟩
  have hD : 0 ≤ r % (m - k) ∧ r % (m - k) < m - k := ⟨Int.emod_nonneg _ (by omega), Int.emod_lt_of_pos _ (by omega)⟩
  generalize r % (m - k - 1) = u at *
  generalize r % (m - k) = v at *
  repeat' (first | apply And.intro | intro _)
  all_goals first
    | omega
    | (split <;> omega)
    | exact hB
    | exact hA (by omega)
def bookSizes (n e : Nat) : List Int := [3 * (n : Int)] ++ List.replicate n (2 * (e : Int) + 2) ++ List.replicate (n * e) (8 * ((n : Int) + 3))
theorem mul_le_of {a b c d : Nat} (h1 : a ≤ c) (h2 : b ≤ d) : a * b ≤ c * d := Nat.mul_le_mul h1 h2
theorem y_law_book_sizes (n e : Nat) (hn : n < 1000) (he : e < 1000) : wo (d_law_book_sizes [.int n, .int e]) fun d => d = .lst ((bookSizes n e).map .int) := by
  apply fnD_of
  have h := mul_le_of (Nat.le_of_lt hn) (Nat.le_of_lt he)
  simp
  rw [← Int.natCast_mul, Int.toNat_natCast]
  refine ⟨cm_of (by omega) (by omega), cm_of (by omega) (by omega), by omega, by omega, cm_of (by omega) (by omega), cm_of (by omega) (by omega), by omega, by omega, by simp [bookSizes]⟩
theorem bs_0 (n e : Nat) : (bookSizes n e)[0]? = some (3 * (n : Int)) := rfl
theorem bs_1 {n e k : Nat} (h : k < n) : (bookSizes n e)[1 + k]? = some (2 * (e : Int) + 2) := by
  unfold bookSizes
  rw [List.append_assoc, List.getElem?_append_right (by simp), List.getElem?_append_left (by simp; omega)]
  simp [List.getElem?_replicate]
  omega
theorem bs_2 {n e k j : Nat} (h : k < n) (hj : j < e) : (bookSizes n e)[1 + n + k * e + j]? = some (8 * ((n : Int) + 3)) := by
  have : (k + 1) * e ≤ n * e := Nat.mul_le_mul_right _ h
  rw [Nat.add_mul, Nat.one_mul] at this
  unfold bookSizes
  rw [List.getElem?_append_right (by simp; omega)]
  simp [List.getElem?_replicate]
  omega
theorem bs_len (n e : Nat) : (bookSizes n e).length = 1 + n + n * e := by simp [bookSizes]; omega
theorem bs_pos {n e : Nat} (hn0 : 0 < n) (hn : n < 1000) (he : e < 1000) : ∀ s ∈ bookSizes n e, 0 < s ∧ s < 1073741824 := by
  intro s hs
  unfold bookSizes at hs
  simp at hs
  rcases hs with rfl | ⟨_, rfl⟩ | ⟨_, rfl⟩ <;> omega
theorem y_law_book (n e : Nat) (row : List Int) (hn0 : 2 ≤ n) (hn : n < 1000) (he0 : 2 ≤ e) (he : e < 1000) (hr : Fits row (bookSizes n e)) : wo (d_law_book [.lst (row.map .int), .int n, .int e]) fun d => ∃ ks, d = dKs ks ∧ KOK n e ks := by
  apply fnD_of
  obtain ⟨r0, e0, l0, u0⟩ := hr.get (i := 0) (by omega) (bs_0 n e)
  rw [startD_ev]
  apply wp_cut (fun r => ∃ x4 x5 x6 x7 : LV, r = [.sh (.lst (row.map .int)), .sh (.int n), .sh (.int e), .sh (.int (1 + r0)), x4, x5, x6, x7])
  · simp [e0]
  rintro _ ⟨x4, x5, x6, x7, rfl⟩
  apply wp_cut (fun r => ∃ (m : Nat) (x4 x5 x6 x7 : LV), r = [.sh (.lst (row.map .int)), .sh (.int n), .sh (.int e), .sh (.int m), x4, x5, x6, x7] ∧ 1 ≤ m ∧ m ≤ n)
  · simp [e0]
    have g0 : 0 ≤ r0 % ((n : Int) - 1) := Int.emod_nonneg _ (by omega)
    have g1 : r0 % ((n : Int) - 1) < (n : Int) - 1 := Int.emod_lt_of_pos _ (by omega)
    exact ⟨fun h => ⟨by omega, (2 + r0 % ((n : Int) - 1)).toNat, by omega, by omega, by omega⟩, fun h => ⟨(1 + r0).toNat, by omega, by omega, by omega⟩⟩
  rintro _ ⟨m, x4, x5, x6, x7, rfl, hm1, hm2⟩
  simp
  refine wp_loop (rngL 0 m) (fun i r => ∃ (ks : List (List Int)) (x5 x6 x7 : LV), r = [.sh (.lst (row.map .int)), .sh (.int n), .sh (.int e), .sh (.int m), .ow (ks.map dK), x5, x6, x7] ∧ ks.length = i ∧ ∀ k ∈ ks, k.length ≤ e ∧ ∀ t ∈ k, -3 ≤ t ∧ t < m) (by simp; omega) ⟨[], _, _, _, rfl, rfl, by simp⟩ ?_ ?_
  · rintro i d _ hd ⟨ks, x5, x6, x7, rfl, hl, hk⟩
    obtain ⟨rfl, hi⟩ := rng_get hd
    obtain ⟨s0, es, ls, us⟩ := hr.get (i := 1 + (i : Int)) (s := 2 * (e : Int) + 2) (by omega) (by rw [show (1 + (i : Int)).toNat = 1 + i by omega]; exact bs_1 (by omega))
    simp
    apply wp_cut (fun r => ∃ (s : Int) (x7 : LV), r = [.sh (.lst (row.map .int)), .sh (.int n), .sh (.int e), .sh (.int m), .ow (ks.map dK), .sh (.int i), .sh (.int s), x7] ∧ 0 ≤ s ∧ s < 2 * (e : Int) + 2)
    · simp [es]
      omega
    rintro _ ⟨s, x7, rfl, h1, h2⟩
    apply wp_cut (fun r => ∃ (s : Int) (x7 : LV), r = [.sh (.lst (row.map .int)), .sh (.int n), .sh (.int e), .sh (.int m), .ow (ks.map dK), .sh (.int i), .sh (.int s), x7] ∧ 0 ≤ s ∧ s < (e : Int) + 2)
    · simp
      omega
    rintro _ ⟨s, x7, rfl, h1, h2⟩
    apply wp_cut (fun r => ∃ (s : Int) (x7 : LV), r = [.sh (.lst (row.map .int)), .sh (.int n), .sh (.int e), .sh (.int m), .ow (ks.map dK), .sh (.int i), .sh (.int s), x7] ∧ 0 ≤ s ∧ s ≤ e)
    · simp
      omega
    rintro _ ⟨s, x7, rfl, h1, h2⟩
    simp
    refine ⟨by omega, by omega, ?_⟩
    refine lc_wo D.int (fun _ t => -3 ≤ t ∧ t < (m : Int)) (fun x hx => ?_) (fun zs hz hp => ⟨by omega, ks ++ [zs], by simp [dK], by simp [hl], fun k hk' => ?_⟩)
    · obtain ⟨j, rfl, j0, j1⟩ := rng_mem hx
      have hme : (i : Int) * e = ((i * e : Nat) : Int) := by simp
      obtain ⟨g, eg, lg, ug⟩ := hr.get (i := 1 + (n : Int) + (i : Int) * e + j) (s := 8 * ((n : Int) + 3)) (by omega) (by rw [show (1 + (n : Int) + (i : Int) * e + j).toNat = 1 + n + i * e + j.toNat by omega]; exact bs_2 (by omega) (by omega))
      simp [c_law_book_1, eg]
      exact ⟨cm_of (by omega) (by omega), y_law_target g i m j lg (by omega) (by omega) (by omega) j0⟩
    · rcases List.mem_append.mp hk' with h | h
      · exact hk k h
      · cases List.mem_singleton.mp h
        refine ⟨by simp at hz; omega, fun t ht => ?_⟩
        obtain ⟨_, _, h⟩ := hp t ht
        exact h
  · rintro _ ⟨ks, x5, x6, x7, rfl, hl, hk⟩
    simp at hl
    simp
    exact ⟨ks, rfl, by omega, by omega, fun k h => by rw [hl]; exact hk k h⟩
end DL
namespace DL
open PySem L2
def rowSizes : List Int := [12, 4, 12] ++ (List.replicate 12 ([26, 20] ++ List.replicate 19 3)).flatten
theorem y_law_row_sizes : wo (d_law_row_sizes []) fun d => d = .lst (rowSizes.map .int) := by
  apply fnD_of
  simp
  rfl
theorem rs_0 : rowSizes[0]? = some 12 := by decide
theorem rs_1 : rowSizes[1]? = some 4 := by decide
theorem rs_2 : rowSizes[2]? = some 12 := by decide
theorem rs_a : ∀ k < 12, rowSizes[3 + 21 * k]? = some 26 ∧ rowSizes[4 + 21 * k]? = some 20 ∧ ∀ j < 19, rowSizes[5 + 21 * k + j]? = some 3 := by decide +kernel
theorem rs_ok : ∀ s ∈ rowSizes, 0 < s ∧ s < 1073741824 := by decide +kernel
theorem rs_len : rowSizes.length = 255 := by decide +kernel
theorem y_law_row (row : List Int) (hr : Fits row rowSizes) : wo (d_law_row [.lst (row.map .int)]) fun d => ∃ ks, d = dKs ks ∧ KOK 12 20 ks := by
  apply fnD_of
  obtain ⟨r0, e0, l0, u0⟩ := hr.get (i := 0) (by omega) rs_0
  obtain ⟨r1, e1, l1, u1⟩ := hr.get (i := 1) (by omega) rs_1
  obtain ⟨r2, e2, l2, u2⟩ := hr.get (i := 2) (by omega) rs_2
  obtain ⟨m, hm⟩ := Int.eq_ofNat_of_zero_le (a := 1 + r0) (by omega)
  rw [startD_ev]
  simp [e0, hm]
  refine wp_loop (rngL 0 m) (fun i r => ∃ (ks : List (List Int)) (x3 x4 x5 x6 x7 x8 : LV), r = [.sh (.lst (row.map .int)), .sh (.int m), .ow (ks.map dK), x3, x4, x5, x6, x7, x8] ∧ ks.length = i ∧ ∀ k ∈ ks, k.length ≤ 20 ∧ ∀ t ∈ k, -3 ≤ t ∧ t < m) (by simp; omega) ⟨[], _, _, _, _, _, _, rfl, rfl, by simp⟩ ?_ ?_
  · rintro i d _ hd ⟨ks, x3, x4, x5, x6, x7, x8, rfl, hl, hk⟩
    obtain ⟨rfl, hi⟩ := rng_get hd
    obtain ⟨q1, q2, q3⟩ := rs_a i (by omega)
    obtain ⟨a0, f0, b0, c0⟩ := hr.get (i := 3 + 21 * (i : Int)) (by omega) (by rw [show (3 + 21 * (i : Int)).toNat = 3 + 21 * i by omega]; exact q1)
    obtain ⟨a1, f1, b1, c1⟩ := hr.get (i := 3 + 21 * (i : Int) + 1) (by omega) (by rw [show (3 + 21 * (i : Int) + 1).toNat = 4 + 21 * i by omega]; exact q2)
    simp
    apply wp_cut (fun r => r = [.sh (.lst (row.map .int)), .sh (.int m), .ow (ks.map dK), .sh (.int i), .sh (.int (3 + 21 * (i : Int))), x5, x6, x7, x8])
    · simp
      exact cm_of (by omega) (by omega)
    rintro _ rfl
    apply wp_cut (fun r => ∃ told : List Int, r = [.sh (.lst (row.map .int)), .sh (.int m), .ow (ks.map dK), .sh (.int i), .sh (.int (3 + 21 * (i : Int))), .sh (.lst (told.map .int)), x6, x7, x8] ∧ told.length ≤ 19 ∧ ∀ t ∈ told, -3 ≤ t ∧ t < 0)
    · have w0 : 0 ≤ (if a0 < 19 then a0 else 19) ∧ (if a0 < 19 then a0 else 19) ≤ 19 := by split <;> omega
      simp [f0]
      generalize (if a0 < 19 then a0 else 19) = w at *
      rw [cut_ab (by omega) (by omega)]
      have hc := cutI_len (xs := row) (a := (3 + 21 * (i : Int) + 2).toNat) (b := (3 + 21 * (i : Int) + 2 + w).toNat)
      refine ⟨by simp; omega, lc_wo D.int (fun _ t => -3 ≤ t ∧ t < 0) (fun x hx => ?_) (fun zs hz hp => ⟨zs, rfl, by simp at hz; omega, fun t ht => ?_⟩)⟩
      · obtain ⟨g, hg, rfl⟩ := List.mem_map.mp hx
        obtain ⟨k, k0, k1, k2⟩ := cutI_mem hg
        obtain ⟨x, x0, x1, x2⟩ := hr.2 k 3 (by
          have := q3 (k - (5 + 21 * i)) (by omega)
          rwa [show 5 + 21 * i + (k - (5 + 21 * i)) = k by omega] at this)
        rw [k2] at x0
        cases x0
        simp [c_law_row_1]
        omega
      · obtain ⟨_, _, h⟩ := hp t ht
        exact h
    rintro _ ⟨told, rfl, ht1, ht2⟩
    apply wp_cut (fun r => ∃ p : Int, r = [.sh (.lst (row.map .int)), .sh (.int m), .ow (ks.map dK), .sh (.int i), .sh (.int (3 + 21 * (i : Int))), .sh (.lst (told.map .int)), .sh (.int p), x7, x8] ∧ 0 ≤ p)
    · simp [f1]
      exact Int.emod_nonneg _ (by omega)
    rintro _ ⟨p, rfl, hp⟩
    apply wp_cut (fun r => r = [.sh (.lst (row.map .int)), .sh (.int m), .ow (ks.map dK), .sh (.int i), .sh (.int (3 + 21 * (i : Int))), .sh (.lst (told.map .int)), .sh (.int p), .sh (.lst [.int (i + 1)]), x8])
    · simp
    rintro _ rfl
    apply wp_cut (fun r => ∃ near : List Int, r = [.sh (.lst (row.map .int)), .sh (.int m), .ow (ks.map dK), .sh (.int i), .sh (.int (3 + 21 * (i : Int))), .sh (.lst (told.map .int)), .sh (.int p), .sh (.lst (near.map .int)), x8] ∧ near.length ≤ 1 ∧ ∀ t ∈ near, 0 ≤ t ∧ t < m)
    · simp [e1, e2]
      refine ⟨fun h => ⟨by omega, by split <;> omega, ?_⟩, fun h => ⟨[(i : Int) + 1], rfl, by simp, by simp; omega⟩⟩
      have g0 : 0 ≤ r2 % (m : Int) := Int.emod_nonneg _ (by omega)
      have g1 : r2 % (m : Int) < m := Int.emod_lt_of_pos _ (by omega)
      by_cases h : 0 < r1
      · rw [if_pos h]
        exact ⟨[r2 % (m : Int)], rfl, by simp, by simp; omega⟩
      · rw [if_neg h]
        exact ⟨[], rfl, by simp, by simp⟩
    rintro _ ⟨near, rfl, hn1, hn2⟩
    simp [cut_b hp, cut_a hp]
    refine ⟨by omega, by omega, by omega, ks ++ [told.take p.toNat ++ (near ++ told.drop p.toNat)], by simp [dK], by simp [hl], fun k hk' => ?_⟩
    rcases List.mem_append.mp hk' with h | h
    · exact hk k h
    · cases List.mem_singleton.mp h
      refine ⟨by simp; omega, fun t ht => ?_⟩
      simp at ht
      rcases ht with h | h | h
      · have := ht2 t (List.mem_of_mem_take h); omega
      · have := hn2 t h; omega
      · have := ht2 t (List.mem_of_mem_drop h); omega
  · rintro _ ⟨ks, x3, x4, x5, x6, x7, x8, rfl, hl, hk⟩
    simp at hl
    simp
    exact ⟨ks, rfl, by omega, by omega, fun k h => by rw [hl]; exact hk k h⟩
def InRow (row : List Int) (i : Nat) (s : Int) : Prop := ∃ x : Int, row[i]? = some x ∧ 0 ≤ x ∧ x < s
theorem InRow.at {row : List Int} {i : Nat} {s : Int} (h : InRow row i s) : ∃ x : Int, atI (row.map D.int) (i : Int) = some (.int x) ∧ 0 ≤ x ∧ x < s :=
  let ⟨x, e, h1, h2⟩ := h
  ⟨x, atI_int e, h1, h2⟩
theorem y_law_branched (ks : List (List Int)) (row : List Int) (c : Nat) (hk : KOK 12 20 ks) (hr : Fits row [12, 12, 21, 12, 12, 21]) (hc : c ≤ 2) : wo (d_law_branched [dKs ks, .lst (row.map .int), .int c]) fun d => ∃ ks, d = dKs ks ∧ KOK 12 20 ks := by
  apply fnD_of
  rw [startD_ev]
  have hne := hk.ne
  have hle := hk.le
  apply wp_cut (fun r => ∃ x7 : LV, r = [.sh (dKs ks), .sh (.lst (row.map .int)), .sh (.int c), .nw (ks.map fun k => k.map .int), .no, .no, .no, x7])
  · simp [dKs]
    refine ⟨by omega, wo_eq (lc_nest dK (fun k => k.map .int) ks fun k hk => ?_) rfl⟩
    simp [c_law_branched_1, dK]
  rintro _ ⟨x7, rfl⟩
  simp
  refine wp_loop (rngL 0 c) (fun i r => ∃ (zs : List (List Int)) (x5 x6 : LV), r = [.sh (dKs ks), .sh (.lst (row.map .int)), .sh (.int c), .nw (zs.map fun k => k.map .int), .sh (.int ks.length), x5, x6, x7] ∧ zs.length = ks.length ∧ KOK 12 20 zs) (by simp; omega) ⟨ks, _, _, rfl, rfl, hk⟩ ?_ ?_
  · rintro i d _ hd ⟨zs, x5, x6, rfl, hl, hz⟩
    obtain ⟨rfl, hi⟩ := rng_get hd
    simp [b_law_branched_1]
    apply wp_ins
    have q : i = 0 ∨ i = 1 := by omega
    have g0 : ∃ x : Int, row[3 * i]? = some x ∧ 0 ≤ x ∧ x < 12 := by rcases q with rfl | rfl <;> exact hr.2 _ _ rfl
    have g1 : ∃ x : Int, row[3 * i + 1]? = some x ∧ 0 ≤ x ∧ x < 12 := by rcases q with rfl | rfl <;> exact hr.2 _ _ rfl
    have g2 : ∃ x : Int, row[3 * i + 2]? = some x ∧ 0 ≤ x ∧ x < 21 := by rcases q with rfl | rfl <;> exact hr.2 _ _ rfl
    obtain ⟨y0, f0, a0, b0⟩ := InRow.at g0
    obtain ⟨y1, f1, a1, b1⟩ := InRow.at g1
    obtain ⟨y2, f2, a2, b2⟩ := InRow.at g2
    push_cast at f0 f1 f2
    simp [f0, f1, f2]
    have p0 : 0 ≤ y0 % (ks.length : Int) := Int.emod_nonneg _ (by omega)
    have p1 : y0 % (ks.length : Int) < ks.length := Int.emod_lt_of_pos _ (by omega)
    rw [ixN_in p0 (by omega)]
    have hlt : (y0 % (ks.length : Int)).toNat < zs.length := by omega
    have cmi : CM 3 (i : Int) := cm_of (by omega) (by omega)
    have hzi := List.getElem?_eq_getElem hlt
    obtain ⟨hz1, hz2⟩ := hz.ok _ (List.getElem_mem hlt)
    have hzl := hz.le
    generalize zs[(y0 % (ks.length : Int)).toNat] = z at *
    have f2' : atI (List.map D.int row) (3 * (i : Int) + 2) = some (.int y2) := by rw [← f2]; congr 1
    have pn : 0 ≤ y2 % ((z.length : Int) + 1) := Int.emod_nonneg _ (by omega)
    have pm : y2 % ((z.length : Int) + 1) < (z.length : Int) + 1 := Int.emod_lt_of_pos _ (by omega)
    have r0 : 0 ≤ y1 % (ks.length : Int) := Int.emod_nonneg _ (by omega)
    have r1 : y1 % (ks.length : Int) < ks.length := Int.emod_lt_of_pos _ (by omega)
    simp [hzi, f2', cmi, hne]
    refine ⟨fun h => ?_, fun h => ⟨zs, rfl, hl, hz⟩⟩
    refine ⟨⟨by omega, by omega, by omega⟩, zs.set (y0 % (ks.length : Int)).toNat (z.take (y2 % ((z.length : Int) + 1)).toNat ++ y1 % (ks.length : Int) :: z.drop (y2 % ((z.length : Int) + 1)).toNat), by simp [List.map_set], by simp [hl], ⟨by simp; omega, by simp; omega, fun k hk' => ?_⟩⟩
    rw [List.length_set]
    rcases List.mem_or_eq_of_mem_set hk' with h' | h'
    · exact hz.ok k h'
    · subst h'
      refine ⟨by simp; omega, fun t ht => ?_⟩
      simp at ht
      rcases ht with h | h | h
      · exact hz2 t (List.mem_of_mem_take h)
      · omega
      · exact hz2 t (List.mem_of_mem_drop h)
  · rintro _ ⟨zs, x5, x6, rfl, hl, hz⟩
    have := hz.le
    simp [frz]
    refine ⟨by omega, wo_eq (lc_map (fun k : List Int => D.lst (k.map .int)) dK zs fun k hk => ?_) ⟨zs, rfl, hz⟩⟩
    simp [c_law_branched_2, dK]
def bushySizes : List Int := [3] ++ (List.replicate 3 [6, 6, 6, 3, 3, 4, 15]).flatten
theorem bu_a : ∀ k < 3, bushySizes[1 + 7 * k]? = some 6 ∧ bushySizes[2 + 7 * k]? = some 6 ∧ bushySizes[3 + 7 * k]? = some 6 ∧ bushySizes[4 + 7 * k]? = some 3 ∧ bushySizes[5 + 7 * k]? = some 3 ∧ bushySizes[6 + 7 * k]? = some 4 ∧ bushySizes[7 + 7 * k]? = some 15 := by decide
theorem bu_ok : ∀ s ∈ bushySizes, 0 < s ∧ s < 1073741824 := by decide
theorem y_law_bushy (row : List Int) (hr : Fits row bushySizes) : wo (d_law_bushy [.lst (row.map .int)]) fun d => ∃ ks, d = dKs ks ∧ KOK 12 20 ks := by
  apply fnD_of
  obtain ⟨r0, e0, l0, u0⟩ := hr.get (i := 0) (by omega) (s := 3) rfl
  obtain ⟨m, hm⟩ := Int.eq_ofNat_of_zero_le (a := 1 + r0) (by omega)
  rw [startD_ev]
  simp [e0, hm]
  refine wp_loop (rngL 0 m) (fun i r => ∃ (ks : List (List Int)) (x3 x4 x5 x6 x7 : LV), r = [.sh (.lst (row.map .int)), .sh (.int m), .ow (ks.map dK), x3, x4, x5, x6, x7] ∧ ks.length = i ∧ ∀ k ∈ ks, k.length ≤ 20 ∧ ∀ t ∈ k, -3 ≤ t ∧ t < m) (by simp; omega) ⟨[], _, _, _, _, _, rfl, rfl, by simp⟩ ?_ ?_
  · rintro i d _ hd ⟨ks, x3, x4, x5, x6, x7, rfl, hl, hk⟩
    obtain ⟨rfl, hi⟩ := rng_get hd
    obtain ⟨q0, q1, q2, q3, q4, q5, q6⟩ := bu_a i (by omega)
    obtain ⟨a5, f5, b5, c5⟩ := hr.get (i := 1 + 7 * (i : Int) + 5) (by omega) (by rw [show (1 + 7 * (i : Int) + 5).toNat = 6 + 7 * i by omega]; exact q5)
    obtain ⟨a6, f6, b6, c6⟩ := hr.get (i := 1 + 7 * (i : Int) + 6) (by omega) (by rw [show (1 + 7 * (i : Int) + 6).toNat = 7 + 7 * i by omega]; exact q6)
    simp
    apply wp_cut (fun r => r = [.sh (.lst (row.map .int)), .sh (.int m), .ow (ks.map dK), .sh (.int i), .sh (.int (1 + 7 * (i : Int))), x5, x6, x7])
    · simp
      exact cm_of (by omega) (by omega)
    rintro _ rfl
    apply wp_cut (fun r => ∃ told : List Int, r = [.sh (.lst (row.map .int)), .sh (.int m), .ow (ks.map dK), .sh (.int i), .sh (.int (1 + 7 * (i : Int))), .sh (.lst (told.map .int)), x6, x7] ∧ told.length ≤ 3 ∧ 0 < told.length ∧ ∀ t ∈ told, 0 ≤ t ∧ t < m)
    · have w0 : 0 ≤ (if a5 = 0 then (1 : Int) else 0) ∧ (if a5 = 0 then (1 : Int) else 0) ≤ 1 := by split <;> omega
      simp [f5]
      generalize (if a5 = 0 then (1 : Int) else 0) = w at *
      rw [cut_ab (by omega) (by omega)]
      have hc := cutI_len (xs := row) (a := (1 + 7 * (i : Int)).toNat) (b := (1 + 7 * (i : Int) + 2 + w).toNat)
      have hrl : row.length = 22 := hr.1
      have hc2 : 2 ≤ (cutI row (1 + 7 * (i : Int)).toNat (1 + 7 * (i : Int) + 2 + w).toNat).length := by
        unfold cutI
        rw [List.length_take, List.length_drop]
        omega
      refine ⟨by simp; omega, lc_wo D.int (fun _ t => 0 ≤ t ∧ t < (m : Int)) (fun x hx => ?_) (fun zs hz hp => ⟨zs, rfl, by simp at hz; omega, by simp at hz; omega, fun t ht => ?_⟩)⟩
      · obtain ⟨g, hg, rfl⟩ := List.mem_map.mp hx
        simp [c_law_bushy_1]
        exact ⟨by omega, Int.emod_nonneg _ (by omega), Int.emod_lt_of_pos _ (by omega)⟩
      · obtain ⟨_, _, h⟩ := hp t ht
        exact h
    rintro _ ⟨told, rfl, ht1, ht0, ht2⟩
    apply wp_cut (fun r => ∃ told : List Int, r = [.sh (.lst (row.map .int)), .sh (.int m), .ow (ks.map dK), .sh (.int i), .sh (.int (1 + 7 * (i : Int))), .sh (.lst (told.map .int)), x6, x7] ∧ told.length ≤ 5 ∧ 0 < told.length ∧ ∀ t ∈ told, -3 ≤ t ∧ t < m)
    · have w0 : 0 ≤ a6 % 3 ∧ a6 % 3 ≤ 2 := by omega
      simp [f6]
      generalize a6 % 3 = w at *
      rw [cut_ab (by omega) (by omega)]
      have hc := cutI_len (xs := row) (a := (1 + 7 * (i : Int) + 3).toNat) (b := (1 + 7 * (i : Int) + 3 + w).toNat)
      refine ⟨by simp; omega, lc_wo D.int (fun _ t => -3 ≤ t ∧ t < 0) (fun x hx => ?_) (fun zs hz hp => ?_)⟩
      · obtain ⟨g, hg, rfl⟩ := List.mem_map.mp hx
        obtain ⟨k, k0, k1, k2⟩ := cutI_mem hg
        have : k = 4 + 7 * i ∨ k = 5 + 7 * i := by omega
        obtain ⟨x, x0, x1, x2⟩ : ∃ x : Int, row[k]? = some x ∧ 0 ≤ x ∧ x < 3 := by
          rcases this with rfl | rfl
          · exact hr.2 _ _ q3
          · exact hr.2 _ _ q4
        rw [k2] at x0
        cases x0
        simp [c_law_bushy_2]
        omega
      · simp at hz
        refine ⟨by simp; omega, told ++ zs, by simp, by simp; omega, by simp; omega, fun t ht => ?_⟩
        rcases List.mem_append.mp ht with h | h
        · have := ht2 t h; omega
        · obtain ⟨_, _, h⟩ := hp t h
          omega
    rintro _ ⟨told, rfl, ht1, ht0, ht2⟩
    have hp : 0 ≤ a6 / 3 % (told.length : Int) := Int.emod_nonneg _ (by omega)
    simp [f6, cut_b hp, cut_a hp]
    refine ⟨by omega, by omega, by omega, ks ++ [told.drop (a6 / 3 % (told.length : Int)).toNat ++ told.take (a6 / 3 % (told.length : Int)).toNat], by simp [dK], by simp [hl], fun k hk' => ?_⟩
    rcases List.mem_append.mp hk' with h | h
    · exact hk k h
    · cases List.mem_singleton.mp h
      refine ⟨by simp; omega, fun t ht => ?_⟩
      rcases List.mem_append.mp ht with h | h
      · exact ht2 t (List.mem_of_mem_drop h)
      · exact ht2 t (List.mem_of_mem_take h)
  · rintro _ ⟨ks, x3, x4, x5, x6, x7, rfl, hl, hk⟩
    simp at hl
    simp
    exact ⟨ks, rfl, by omega, by omega, fun k h => by rw [hl]; exact hk k h⟩
theorem KOK.mono {m n m' n' : Nat} {ks : List (List Int)} (h : KOK m n ks) (a : m ≤ m') (b : n ≤ n') : KOK m' n' ks := ⟨h.ne, Nat.le_trans h.le a, fun k hk => ⟨Nat.le_trans (h.ok k hk).1 b, (h.ok k hk).2⟩⟩
theorem y_law_some (s c : Int) (more : List Int) (hs : 0 ≤ s) (hs8 : s < 8) (hm : Fits more [12, 12, 21, 12, 12, 21]) : wo (d_law_some [.int s, .int c, .lst (more.map .int)]) fun d => ∃ ks, d = dKs ks ∧ KOK 40 20 ks := by
  apply fnD_of
  rw [startD_ev]
  have A : wo (d_law_row_sizes []) fun d1 => wo (d_law_digits [.int c, d1]) fun d2 => wo (d_law_row [d2]) fun d => ∃ ks, d = dKs ks ∧ KOK 12 20 ks := by
    refine y_law_row_sizes.mono fun d e => ?_
    subst e
    refine (y_law_digits c rowSizes rs_ok (by rw [rs_len]; decide)).mono ?_
    rintro _ ⟨row, rfl, hf⟩
    exact y_law_row row hf
  simp
  refine ⟨fun h => A.mono fun d1 h => h.mono fun d2 h => h.mono ?_, fun h3 => ⟨fun h => A.mono fun d1 h => h.mono fun d2 h => h.mono ?_, fun h5 => ⟨fun h => ?_, fun h6 => ?_⟩⟩⟩
  · rintro _ ⟨ks, rfl, hk⟩
    exact ⟨ks, rfl, hk.mono (by decide) (by decide)⟩
  · rintro _ ⟨ks, rfl, hk⟩
    obtain ⟨n, hn⟩ := Int.eq_ofNat_of_zero_le (a := s - 2) (by omega)
    rw [hn]
    refine (y_law_branched ks more n hk hm (by omega)).mono ?_
    rintro _ ⟨ks, rfl, hk⟩
    exact ⟨ks, rfl, hk.mono (by decide) (by decide)⟩
  · refine (y_law_digits c bushySizes bu_ok (by decide)).mono ?_
    rintro _ ⟨row, rfl, hf⟩
    refine (y_law_bushy row hf).mono ?_
    rintro _ ⟨ks, rfl, hk⟩
    exact ⟨ks, rfl, hk.mono (by decide) (by decide)⟩
  · have tail : ∀ n e : Nat, 2 ≤ n → n ≤ 40 → 2 ≤ e → e ≤ 20 → wo (d_law_book_sizes [.int n, .int e]) fun d_2 =>
        wo (d_law_digits [D.int c, d_2]) fun d_3 =>
          wo (d_law_book [d_3, .int n, .int e]) fun d => ∃ ks, d = dKs ks ∧ KOK 40 20 ks := fun n e h1 h2 h3 h4 => by
      refine (y_law_book_sizes n e (by omega) (by omega)).mono ?_
      rintro _ rfl
      have := mul_le_of h2 h4
      refine (y_law_digits c (bookSizes n e) (bs_pos (by omega) (by omega) (by omega)) (by rw [bs_len]; omega)).mono ?_
      rintro _ ⟨row, rfl, hf⟩
      refine (y_law_book n e row h1 (by omega) h3 (by omega) hf).mono ?_
      rintro _ ⟨ks, rfl, hk⟩
      exact ⟨ks, rfl, hk.mono h2 h4⟩
    have fin : ∀ d : D, (∃ ks, d = dKs ks ∧ KOK 40 20 ks) → wo (dIx d (D.int 0)) fun d_4 =>
              wo (dLen [d_4]) fun x =>
                wo (dEqD x (D.int 0)) fun d_5 =>
                  wo (asBl d_5) fun b =>
                    (b = true →
                        wo (dLen [d]) fun x =>
                          wo (iI (fun i j => i - j) x (D.int 1)) fun d_6 =>
                            wo
                              (match d with
                              | D.lst ds => some (D.lst (cutD ds (some 1) none))
                              | D.tup ds => some (D.tup (cutD ds (some 1) none))
                              | x => none)
                              fun y =>
                              wo (dAdd (D.tup [D.tup [d_6, D.int (-2)]]) y) fun d => ∃ ks, d = dKs ks ∧ KOK 40 20 ks) ∧
                      (b = false → ∃ ks, d = dKs ks ∧ KOK 40 20 ks) := by
      rintro _ ⟨ks, rfl, hk⟩
      have h0 := hk.ne
      have hle := hk.le
      have hg := List.getElem?_eq_getElem h0
      have e1 : atI (ks.map dK) 0 = some (dK ks[0]) := atI_val (by omega) hg
      simp only [dKs, dIx_tup, e1, wo_some]
      simp [dK]
      refine ⟨fun he => ?_, fun he => ⟨ks, rfl, hk⟩⟩
      rw [cut_a (by omega)]
      refine ⟨by simp; omega, [(ks.length : Int) - 1, -2] :: ks.drop 1, by simp [dK], ⟨by simp, by simp; omega, fun k hk' => ?_⟩⟩
      have hl : ([(ks.length : Int) - 1, -2] :: ks.drop 1).length = ks.length := by simp; omega
      rw [hl]
      rcases List.mem_cons.mp hk' with rfl | h
      · simp; omega
      · exact hk.ok k (List.mem_of_mem_drop h)
    obtain rfl | rfl : s = 6 ∨ s = 7 := by omega
    · rw [show atI [D.int 8, D.int 40] (6 - 6) = some (.int 8) from rfl, show atI [D.int 4, D.int 20] (6 - 6) = some (.int 4) from rfl, wo_some, wo_some]
      exact (tail 8 4 (by decide) (by decide) (by decide) (by decide)).mono fun d1 h => h.mono fun d2 h => h.mono fin
    · rw [show atI [D.int 8, D.int 40] (7 - 6) = some (.int 40) from rfl, show atI [D.int 4, D.int 20] (7 - 6) = some (.int 20) from rfl, wo_some, wo_some]
      exact (tail 40 20 (by decide) (by decide) (by decide) (by decide)).mono fun d1 h => h.mono fun d2 h => h.mono fin
def upK (a : Int) (k : List Int) : List Int := k.map fun t => if 0 ≤ t then t + a else t
def sumK (l r : List (List Int)) : List (List Int) := [1, 1 + (l.length : Int)] :: (l.map (upK 1) ++ r.map (upK (1 + (l.length : Int))))
theorem y_law_sum (l r : List (List Int)) (hl : KOK 40 20 l) (hr : KOK 40 20 r) : wo (d_law_sum [dKs l, dKs r]) fun d => d = dKs (sumK l r) := by
  apply fnD_of
  rw [startD_ev]
  have := hl.le
  have := hr.le
  simp [dKs]
  have body : ∀ (a : Int) (k : List Int) (c : DE) (ρ : Env), k.length ≤ 20 → (∀ t : Int, wo (c (ρ.set 5 (.sh (.int t)))) fun d => d = .int (if 0 ≤ t then t + a else t)) → lcL (nmG 5) yesT c ρ (k.map .int) = some ((upK a k).map .int) := fun a k c ρ hk h => by
    have := lc_map (γ := nmG 5) (τ := yesT) (δ := c) (ρ := ρ) D.int (fun t => D.int (if 0 ≤ t then t + a else t)) k (fun x hx => by simp; exact (h x).mono fun _ e => e)
    rw [this]
    simp [upK, Function.comp_def]
  refine wp_loop (l.map dK) (fun i q => ∃ (x4 x5 : LV), q = [.sh (dKs l), .sh (dKs r), .sh (.int (1 + (l.length : Int))), .ow (([1, 1 + (l.length : Int)] :: (l.take i).map (upK 1)).map dK), x4, x5]) (by simp) ⟨.no, .no, by simp [dK, dKs]⟩ ?_ ?_
  · rintro i d _ hd ⟨x4, x5, rfl⟩
    rw [List.getElem?_map] at hd
    obtain ⟨k, hk, rfl⟩ := Option.map_eq_some_iff.mp hd
    obtain ⟨hk1, hk2⟩ := hl.ok k (List.mem_of_getElem? hk)
    have hi := (List.getElem?_eq_some_iff.mp hk).1
    simp [b_law_sum_1, dK]
    refine ⟨by omega, ?_⟩
    rw [body 1 k _ _ hk1 (fun t => by
      simp [c_law_sum_1]
      by_cases h : 0 ≤ t <;> simp [h, atI, ixN])]
    simp
    refine ⟨by omega, ?_⟩
    rw [List.take_add_one]
    simp [hk, dK]
  rintro _ ⟨x4, x5, rfl⟩
  simp
  refine wp_loop (r.map dK) (fun i q => ∃ (x4 x5 : LV), q = [.sh (dKs l), .sh (dKs r), .sh (.int (1 + (l.length : Int))), .ow (([1, 1 + (l.length : Int)] :: (l.map (upK 1) ++ (r.take i).map (upK (1 + (l.length : Int))))).map dK), x4, x5]) (by simp [dKs]) ⟨x4, x5, by simp [dK, dKs, List.take_of_length_le]⟩ ?_ ?_
  · rintro i d _ hd ⟨x4, x5, rfl⟩
    rw [List.getElem?_map] at hd
    obtain ⟨k, hk, rfl⟩ := Option.map_eq_some_iff.mp hd
    obtain ⟨hk1, hk2⟩ := hr.ok k (List.mem_of_getElem? hk)
    have hi := (List.getElem?_eq_some_iff.mp hk).1
    simp [b_law_sum_2, dK]
    refine ⟨by omega, ?_⟩
    rw [body (1 + (l.length : Int)) k _ _ hk1 (fun t => by
      simp [c_law_sum_2]
      by_cases h : 0 ≤ t <;> simp [h, atI, ixN])]
    simp
    refine ⟨by omega, ?_⟩
    rw [List.take_add_one]
    simp [hk, dK]
  · rintro _ ⟨x4, x5, rfl⟩
    simp [sumK, dK, List.take_of_length_le]
theorem sumK_ok {l r : List (List Int)} (hl : KOK 40 20 l) (hr : KOK 40 20 r) : KOK 81 20 (sumK l r) := by
  have h1 := hl.le
  have h2 := hr.le
  have h3 := hr.ne
  refine ⟨by simp [sumK], by simp [sumK]; omega, fun k hk => ?_⟩
  have hlen : ((sumK l r).length : Int) = 1 + l.length + r.length := by simp [sumK]; omega
  rw [hlen]
  rcases List.mem_cons.mp hk with rfl | hk
  · simp; omega
  · rcases List.mem_append.mp hk with h | h
    · obtain ⟨k', h', rfl⟩ := List.mem_map.mp h
      obtain ⟨a, b⟩ := hl.ok k' h'
      refine ⟨by simp [upK]; exact a, fun t ht => ?_⟩
      obtain ⟨u, hu, rfl⟩ := List.mem_map.mp ht
      have := b u hu
      split <;> omega
    · obtain ⟨k', h', rfl⟩ := List.mem_map.mp h
      obtain ⟨a, b⟩ := hr.ok k' h'
      refine ⟨by simp [upK]; exact a, fun t ht => ?_⟩
      obtain ⟨u, hu, rfl⟩ := List.mem_map.mp ht
      have := b u hu
      split <;> omega
end DL
namespace DL
open PySem L2
def kid (ks : List (List Int)) (t : Int) : List Int := ks.getD t.toNat []
def Lf (ks : List (List Int)) : Nat → Int → Nat
  | 0, _ => 1
  | d + 1, t => if t < 0 then 1 else ((kid ks t).map (Lf ks d)).sum
def St (ks : List (List Int)) : Nat → Int → Nat
  | 0, _ => 0
  | d + 1, t => if t < 0 then 0 else ((kid ks t).map fun u => Lf ks d u + St ks d u).sum
theorem Lf_neg {ks : List (List Int)} {t : Int} (h : t < 0) : ∀ d, Lf ks d t = 1
  | 0 => rfl
  | d + 1 => by unfold Lf; rw [if_pos h]
theorem St_neg {ks : List (List Int)} {t : Int} (h : t < 0) : ∀ d, St ks d t = 0
  | 0 => rfl
  | d + 1 => by unfold St; rw [if_pos h]
def tabD (ks : List (List Int)) (d : Nat) : List D := (List.range ks.length).map fun (i : Nat) => .tup [.int (Lf ks d (i : Int)), .int (St ks d (i : Int))]
theorem tabD_len {ks : List (List Int)} {d : Nat} : (tabD ks d).length = ks.length := by simp [tabD]
theorem kid_at {ks : List (List Int)} {i : Nat} {k : List Int} (h : ks[i]? = some k) : kid ks (i : Int) = k := by
  unfold kid
  rw [Int.toNat_natCast, List.getD_eq_getElem?_getD, h]
  rfl
theorem tabD_at {ks : List (List Int)} {d : Nat} {t : Int} (h0 : 0 ≤ t) (h : t < ks.length) : atI (tabD ks d) t = some (.tup [.int (Lf ks d t), .int (St ks d t)]) := by
  unfold tabD
  rw [atI_val (x := t.toNat) h0 (by rw [List.getElem?_range (by omega)])]
  rw [Int.toNat_of_nonneg h0]
def sumN (f : Int → Nat) (k : List Int) : Nat := (k.map f).sum
theorem sumN_snoc {f : Int → Nat} {k : List Int} {i : Nat} {x : Int} (h : k[i]? = some x) : sumN f (k.take (i + 1)) = sumN f (k.take i) + f x := by
  unfold sumN
  rw [List.take_add_one, h]
  simp
def FitAll (ks : List (List Int)) (f : Int) (lim n : Nat) : Prop := ∀ j, j ≤ n → Lf ks j f ≤ lim
theorem y_law_fitting (ks : List (List Int)) (f : Int) (deep lim : Nat) (hk : KOK 81 20 ks) (hf0 : 0 ≤ f) (hf : f < ks.length) (hd : deep < 1000) (hl : 0 < lim) : wo (d_law_fitting [dKs ks, .int f, .int deep, .int lim]) fun d => ∃ n : Nat, d = .int n ∧ n ≤ deep ∧ FitAll ks f lim n := by
  apply fnD_of
  rw [startD_ev]
  have hle := hk.le
  simp [dKs]
  refine ⟨by omega, ?_⟩
  refine wp_loop (rngL 0 deep) (fun i q => ∃ (x5 x6 x7 x8 x9 x10 : LV), q = [.sh (dKs ks), .sh (.int f), .sh (.int deep), .sh (.int lim), .sh (.lst (tabD ks i)), x5, x6, x7, x8, x9, x10] ∧ FitAll ks f lim i) (by simp; omega) ⟨.no, .no, .no, .no, .no, .no, ?_, ?_⟩ ?_ ?_
  · simp [dKs, tabD, Lf, St]
    apply List.ext_getElem <;> simp
  · intro j hj
    have : j = 0 := by omega
    subst this
    exact hl
  · rintro i d _ hd ⟨x5, x6, x7, x8, x9, x10, rfl, hfit⟩
    obtain ⟨rfl, hi⟩ := rng_get hd
    simp [b_law_fitting_1]
    refine wp_loop (ks.map dK) (fun j q => ∃ (x7 x8 x9 x10 : LV), q = [.sh (dKs ks), .sh (.int f), .sh (.int deep), .sh (.int lim), .sh (.lst (tabD ks i)), .sh (.int i), .ow ((tabD ks (i + 1)).take j), x7, x8, x9, x10]) (by simp [dKs]) ⟨x7, x8, x9, x10, by simp⟩ ?_ ?_
    · rintro j d _ hd ⟨x7, x8, x9, x10, rfl⟩
      rw [List.getElem?_map] at hd
      obtain ⟨k, hk', rfl⟩ := Option.map_eq_some_iff.mp hd
      obtain ⟨hk1, hk2⟩ := hk.ok k (List.mem_of_getElem? hk')
      have hj := (List.getElem?_eq_some_iff.mp hk').1
      simp [b_law_fitting_2, dK]
      refine wp_loop (k.map .int) (fun e q => ∃ x10 : LV, q = [.sh (dKs ks), .sh (.int f), .sh (.int deep), .sh (.int lim), .sh (.lst (tabD ks i)), .sh (.int i), .ow ((tabD ks (i + 1)).take j), .sh (dK k), .sh (.int ((k.length : Int) - e + sumN (Lf ks i) (k.take e))), .sh (.int ((k.length : Int) - e + sumN (fun u => Lf ks i u + St ks i u) (k.take e))), x10]) (by simp [dK]) ⟨x10, by simp [sumN, dK]⟩ ?_ ?_
      · rintro e d _ hd ⟨x10, rfl⟩
        rw [List.getElem?_map] at hd
        obtain ⟨u, hu, rfl⟩ := Option.map_eq_some_iff.mp hd
        have hu1 := hk2 u (List.mem_of_getElem? hu)
        simp [b_law_fitting_3]
        rw [sumN_snoc hu, sumN_snoc hu]
        refine ⟨fun h => ?_, fun h => ?_⟩
        · simp [tabD_at h hu1.2]
          omega
        · rw [Lf_neg h, St_neg h]
          omega
      · rintro _ ⟨x10, rfl⟩
        simp
        refine ⟨by rw [tabD_len]; omega, ?_⟩
        rw [List.take_add_one]
        congr 1
        unfold tabD
        rw [List.getElem?_map, List.getElem?_range hj]
        have : ¬ (j : Int) < 0 := by omega
        simp [Lf, St, this, kid_at hk', sumN]
    · rintro _ ⟨x7, x8, x9, x10, rfl⟩
      simp [frz]
      rw [List.take_of_length_le (by rw [tabD_len]; exact Nat.le_refl _), tabD_at hf0 hf]
      simp
      refine ⟨fun h => ⟨i, rfl, by omega, hfit⟩, fun h j hj => ?_⟩
      by_cases e : j ≤ i
      · exact hfit j e
      · have : j = i + 1 := by omega
        subst this
        omega
  · rintro _ ⟨x5, x6, x7, x8, x9, x10, rfl, hfit⟩
    simp at hfit
    simp
    exact ⟨deep, rfl, Nat.le_refl _, hfit⟩
end DL
namespace DL
open PySem L2
abbrev Pr := List Int × Int
def nxt (ks : List (List Int)) (p : Pr) : List Pr := if p.2 < 0 then [p] else (List.range (kid ks p.2).length).map fun (e : Nat) => (p.1 ++ [(e : Int)], (kid ks p.2).getD e 0)
def Pf (ks : List (List Int)) (f : Int) : Nat → List Pr
  | 0 => [([], f)]
  | d + 1 => (Pf ks f d).flatMap (nxt ks)
def dP (p : Pr) : D := .tup [.tup (p.1.map .int), .int p.2]
theorem range_getD (k : List Int) : (List.range k.length).map (fun e => k.getD e 0) = k := by
  apply List.ext_getElem
  · simp
  · intro i h1 h2
    simp at h1
    simp [List.getD_eq_getElem?_getD, h1]
theorem nxt_sum (ks : List (List Int)) (j : Nat) (p : Pr) : ((nxt ks p).map fun q => Lf ks j q.2).sum = Lf ks (j + 1) p.2 := by
  unfold nxt
  by_cases h : p.2 < 0
  · rw [if_pos h, Lf_neg h]
    simp [Lf_neg h]
  · rw [if_neg h, List.map_map]
    show (List.map (fun e => Lf ks j ((kid ks p.2).getD e 0)) (List.range _)).sum = _
    rw [show (fun e => Lf ks j ((kid ks p.2).getD e 0)) = Lf ks j ∘ (fun e => (kid ks p.2).getD e 0) from rfl, ← List.map_map, range_getD]
    show _ = if p.2 < 0 then 1 else _
    rw [if_neg h]
theorem flat_sum {α β : Type} (g : α → List β) (w : β → Nat) : ∀ ps : List α, ((ps.flatMap g).map w).sum = (ps.map fun p => ((g p).map w).sum).sum
  | [] => rfl
  | p :: ps => by
    rw [List.flatMap_cons, List.map_append, List.sum_append, flat_sum g w ps, List.map_cons, List.sum_cons]
theorem Pf_sum (ks : List (List Int)) (f : Int) : ∀ (d j : Nat), ((Pf ks f d).map fun q => Lf ks j q.2).sum = Lf ks (d + j) f
  | 0, j => by simp [Pf]
  | d + 1, j => by
    unfold Pf
    rw [flat_sum]
    simp only [nxt_sum]
    rw [Pf_sum ks f d (j + 1)]
    congr 1
    omega
theorem Pf_len (ks : List (List Int)) (f : Int) (d : Nat) : (Pf ks f d).length = Lf ks d f := by
  have := Pf_sum ks f d 0
  rw [Nat.add_zero] at this
  rw [← this]
  unfold Lf
  generalize Pf ks f d = l
  induction l with
  | nil => rfl
  | cons a l ih => simp [ih]; omega
def PrOK (ks : List (List Int)) (d : Nat) (p : Pr) : Prop := (-3 ≤ p.2 ∧ p.2 < ks.length) ∧ p.1.length ≤ d
theorem kid_ok {m n : Nat} {ks : List (List Int)} (hk : KOK m n ks) {t : Int} (h0 : 0 ≤ t) (h1 : t < ks.length) : ks[t.toNat]? = some (kid ks t) ∧ (kid ks t).length ≤ n ∧ ∀ u ∈ kid ks t, -3 ≤ u ∧ u < ks.length := by
  have h : t.toNat < ks.length := by omega
  have e : kid ks t = ks[t.toNat] := by unfold kid; simp [List.getD_eq_getElem?_getD, h]
  rw [e]
  exact ⟨List.getElem?_eq_getElem h, hk.ok _ (List.getElem_mem h)⟩
theorem nxt_ok {m n : Nat} {ks : List (List Int)} (hk : KOK m n ks) {d : Nat} {p : Pr} (hp : PrOK ks d p) : ∀ q ∈ nxt ks p, PrOK ks (d + 1) q := by
  intro q hq
  unfold nxt at hq
  by_cases h : p.2 < 0
  · rw [if_pos h] at hq
    cases List.mem_singleton.mp hq
    exact ⟨hp.1, by have := hp.2; omega⟩
  · rw [if_neg h] at hq
    obtain ⟨e, he, rfl⟩ := List.mem_map.mp hq
    have he' := List.mem_range.mp he
    obtain ⟨_, _, k3⟩ := kid_ok hk (by omega) hp.1.2
    refine ⟨?_, by have := hp.2; simp; omega⟩
    apply k3
    simp [List.getD_eq_getElem?_getD, he']
theorem Pf_ok {m n : Nat} {ks : List (List Int)} (hk : KOK m n ks) {f : Int} (h0 : -3 ≤ f) (h1 : f < ks.length) : ∀ d, ∀ p ∈ Pf ks f d, PrOK ks d p
  | 0 => fun p hp => by
    cases List.mem_singleton.mp hp
    exact ⟨⟨h0, h1⟩, by simp⟩
  | d + 1 => fun p hp => by
    obtain ⟨q, hq, hp⟩ := List.mem_flatMap.mp hp
    exact nxt_ok hk (Pf_ok hk h0 h1 d q hq) p hp
theorem flat_snoc {α β : Type} {g : α → List β} {ps : List α} {i : Nat} {p : α} (h : ps[i]? = some p) : (ps.take (i + 1)).flatMap g = (ps.take i).flatMap g ++ g p := by
  rw [List.take_add_one, h]
  simp
theorem flat_le {α β : Type} {g : α → List β} {ps : List α} {i : Nat} : ((ps.take i).flatMap g).length ≤ (ps.flatMap g).length := by
  conv => rhs; rw [← List.take_append_drop i ps, List.flatMap_append, List.length_append]
  omega
theorem dIx_kid {m n : Nat} {ks : List (List Int)} (hk : KOK m n ks) {t : Int} (h0 : 0 ≤ t) (h1 : t < ks.length) : dIx (dKs ks) (.int t) = some (dK (kid ks t)) := by
  unfold dKs
  rw [dIx_tup]
  exact atI_val h0 (kid_ok hk h0 h1).1
theorem nxt_neg {ks : List (List Int)} {p : Pr} (h : p.2 < 0) : nxt ks p = [p] := by unfold nxt; rw [if_pos h]
theorem nxt_pos {ks : List (List Int)} {p : Pr} (h : 0 ≤ p.2) : nxt ks p = (List.range (kid ks p.2).length).map fun (e : Nat) => (p.1 ++ [(e : Int)], (kid ks p.2).getD e 0) := by unfold nxt; rw [if_neg (by omega)]
theorem nxt_snoc {ks : List (List Int)} {p : Pr} {e : Nat} (h : 0 ≤ p.2) (he : e < (kid ks p.2).length) : (nxt ks p).take (e + 1) = (nxt ks p).take e ++ [(p.1 ++ [(e : Int)], (kid ks p.2)[e])] := by
  rw [nxt_pos h, List.take_add_one]
  simp [he, List.getD_eq_getElem?_getD]
theorem nxt_len {ks : List (List Int)} {p : Pr} (h : 0 ≤ p.2) : (nxt ks p).length = (kid ks p.2).length := by rw [nxt_pos h]; simp
theorem y_law_front_1 (ks : List (List Int)) (ps : List Pr) (d : Nat) (hk : KOK 81 20 ks) (hp : ∀ p ∈ ps, PrOK ks d p) (hd : d < 1000) (hl : (ps.flatMap (nxt ks)).length < 1000000) (x1 x2 x4 x5 x6 x7 x8 : LV) {Q : Fl → Prop}
    (q : ∀ x5 x6 x7 x8 : LV, Q (.nx [.sh (dKs ks), x1, x2, .sh (.lst ((ps.flatMap (nxt ks)).map dP)), x4, x5, x6, x7, x8])) : wp b_law_front_1 [.sh (dKs ks), x1, x2, .sh (.lst (ps.map dP)), x4, x5, x6, x7, x8] Q := by
  simp [b_law_front_1]
  refine wp_loop (ps.map dP) (fun i r => ∃ x6 x7 x8 : LV, r = [.sh (dKs ks), x1, x2, .sh (.lst (ps.map dP)), x4, .ow (((ps.take i).flatMap (nxt ks)).map dP), x6, x7, x8]) (by simp) ⟨x6, x7, x8, by simp⟩ ?_ ?_
  · rintro i _ _ hd' ⟨x6, x7, x8, rfl⟩
    rw [List.getElem?_map] at hd'
    obtain ⟨p, hpi, rfl⟩ := Option.map_eq_some_iff.mp hd'
    obtain ⟨⟨p1, p2⟩, p3⟩ := hp p (List.mem_of_getElem? hpi)
    have hf := flat_le (g := nxt ks) (ps := ps) (i := i)
    have hf' := flat_le (g := nxt ks) (ps := ps) (i := i + 1)
    rw [flat_snoc hpi] at hf' ⊢
    rw [List.length_append] at hf'
    generalize (ps.take i).flatMap (nxt ks) = done at *
    simp [b_law_front_2, dP]
    refine ⟨fun h => ?_, fun h => ?_⟩
    · rw [nxt_neg h] at hf' ⊢
      simp [dP]
      omega
    · obtain ⟨hk1, hk2, hk3⟩ := kid_ok hk h p2
      rw [nxt_len h] at hf'
      simp [dIx_kid hk h p2]
      refine wp_loop (rngL 0 (kid ks p.2).length) (fun e r => ∃ x8 : LV, r = [.sh (dKs ks), x1, x2, .sh (.lst (ps.map dP)), x4, .ow ((done ++ (nxt ks p).take e).map dP), .sh (dP p), .sh (dK (kid ks p.2)), x8]) (by simp [dK]; omega) ⟨x8, by simp [dP]⟩ ?_ ?_
      · rintro e _ _ he ⟨x8, rfl⟩
        obtain ⟨rfl, he⟩ := rng_get he
        have he' : e < (kid ks p.2).length := by omega
        rw [nxt_snoc h he']
        have hz : atI ((kid ks p.2).map D.int) (e : Int) = some (.int (kid ks p.2)[e]) := atI_int (List.getElem?_eq_getElem he')
        simp [b_law_front_3, dP, dK, hz]
        rw [nxt_len h]
        omega
      · rintro _ ⟨x8, rfl⟩
        rw [rngL_length, List.take_of_length_le (by rw [nxt_len h]; omega)]
        exact ⟨.sh (dP p), .sh (dK (kid ks p.2)), x8, by simp⟩
  · rintro _ ⟨x6, x7, x8, rfl⟩
    simp
    exact q _ _ _ _
theorem y_law_front (ks : List (List Int)) (f : Int) (n : Nat) (lim : Nat) (hk : KOK 81 20 ks) (h0 : 0 ≤ f) (h1 : f < ks.length) (hn : n < 1000) (hlim : lim < 1000000) (hf : FitAll ks f lim n) : wo (d_law_front [dKs ks, .int f, .int n]) fun d => d = .lst ((Pf ks f n).map dP) := by
  apply fnD_of
  rw [startD_ev]
  simp
  refine wp_loop (rngL 0 n) (fun i r => ∃ x4 x5 x6 x7 x8 : LV, r = [.sh (dKs ks), .sh (.int f), .sh (.int n), .sh (.lst ((Pf ks f i).map dP)), x4, x5, x6, x7, x8]) (by simp; omega) ⟨.no, .no, .no, .no, .no, by simp [Pf, dP]⟩ ?_ ?_
  · rintro i _ _ hi ⟨x4, x5, x6, x7, x8, rfl⟩
    obtain ⟨rfl, hi⟩ := rng_get hi
    simp
    refine y_law_front_1 ks (Pf ks f i) i hk (Pf_ok hk (by omega) h1 i) (by omega) ?_ _ _ _ _ _ _ _ ?_
    · have := hf (i + 1) (by omega)
      rw [← Pf_len] at this
      unfold Pf at this
      omega
    · intro x5 x6 x7 x8
      simp [Pf]
  · rintro _ ⟨x4, x5, x6, x7, x8, rfl⟩
    simp
theorem y_continued (ks : List (List Int)) (ps : List Pr) (d : Nat) (hk : KOK 81 20 ks) (hp : ∀ p ∈ ps, PrOK ks d p) (hd : d < 1000) (hl : (ps.flatMap (nxt ks)).length < 1000000) : wo (d_continued [dKs ks, .lst (ps.map dP)]) fun d => d = .lst ((ps.flatMap (nxt ks)).map dP) := by
  apply fnD_of
  rw [startD_ev]
  simp
  refine wp_loop (ps.map dP) (fun i r => ∃ x3 x4 x5 : LV, r = [.sh (dKs ks), .sh (.lst (ps.map dP)), .ow (((ps.take i).flatMap (nxt ks)).map dP), x3, x4, x5]) (by simp) ⟨.no, .no, .no, by simp⟩ ?_ ?_
  · rintro i _ _ hd' ⟨x3, x4, x5, rfl⟩
    rw [List.getElem?_map] at hd'
    obtain ⟨p, hpi, rfl⟩ := Option.map_eq_some_iff.mp hd'
    obtain ⟨⟨p1, p2⟩, p3⟩ := hp p (List.mem_of_getElem? hpi)
    have hf := flat_le (g := nxt ks) (ps := ps) (i := i)
    have hf' := flat_le (g := nxt ks) (ps := ps) (i := i + 1)
    rw [flat_snoc hpi] at hf' ⊢
    rw [List.length_append] at hf'
    generalize (ps.take i).flatMap (nxt ks) = done at *
    simp [b_continued_1, dP]
    refine ⟨fun h => ?_, fun h => ?_⟩
    · rw [nxt_neg h] at hf' ⊢
      simp [dP]
      omega
    · obtain ⟨hk1, hk2, hk3⟩ := kid_ok hk h p2
      rw [nxt_len h] at hf'
      refine wp_loop (rngL 0 (kid ks p.2).length) (fun e r => ∃ x5 : LV, r = [.sh (dKs ks), .sh (.lst (ps.map dP)), .ow ((done ++ (nxt ks p).take e).map dP), .sh (.tup (p.1.map .int)), .sh (.int p.2), x5]) (by simp [dIx_kid hk h p2]; simp [dK]; omega) ⟨x5, by simp⟩ ?_ ?_
      · rintro e _ _ he ⟨x5, rfl⟩
        obtain ⟨rfl, he⟩ := rng_get he
        have he' : e < (kid ks p.2).length := by omega
        rw [nxt_snoc h he']
        have hz : atI ((kid ks p.2).map D.int) (e : Int) = some (.int (kid ks p.2)[e]) := atI_int (List.getElem?_eq_getElem he')
        simp [b_continued_2, dIx_kid hk h p2]
        simp [dP, dK, hz]
        rw [nxt_len h]
        omega
      · rintro _ ⟨x5, rfl⟩
        rw [rngL_length, List.take_of_length_le (by rw [nxt_len h]; omega)]
        exact ⟨_, _, x5, by simp; exact ⟨rfl, rfl⟩⟩
  · rintro _ ⟨x3, x4, x5, rfl⟩
    simp [frz]
def dBook (ks : List (List Int)) : D := .ob "Book" [("kinds", dKs ks)]
@[simp] theorem fld_kinds {ks : List (List Int)} : fldOf "Book" "kinds" (dBook ks) = some (dKs ks) := by
  simp [dBook, fldOf, List.lookup]
@[simp] theorem ob_book {ks : List (List Int)} : obOf (dBook ks) = some "Book" := rfl
theorem y_front (ks : List (List Int)) (f : Int) (n : Nat) (lim : Nat) (hk : KOK 81 20 ks) (h0 : 0 ≤ f) (h1 : f < ks.length) (hn : n < 1000) (hlim : lim < 1000000) (hf : FitAll ks f lim n) : wo (d_front [dBook ks, .int n, .int f]) fun d => d = .tup ((Pf ks f n).map fun p => .tup (p.1.map .int)) := by
  apply fnD_of
  rw [startD_ev]
  simp
  refine wp_loop (rngL 0 n) (fun i r => ∃ x4 x5 x6 : LV, r = [.sh (dBook ks), .sh (.int n), .sh (.int f), .sh (.lst ((Pf ks f i).map dP)), x4, x5, x6]) (by simp; omega) ⟨.no, .no, .no, by simp [Pf, dP]⟩ ?_ ?_
  · rintro i _ _ hi ⟨x4, x5, x6, rfl⟩
    obtain ⟨rfl, hi⟩ := rng_get hi
    simp [b_front_1, fld_kinds]
    refine (y_continued ks (Pf ks f i) i hk (Pf_ok hk (by omega) h1 i) (by omega) ?_).mono ?_
    · have := hf (i + 1) (by omega)
      rw [← Pf_len] at this
      unfold Pf at this
      omega
    · rintro _ rfl
      simp [Pf]
  · rintro _ ⟨x4, x5, x6, rfl⟩
    have := hf n (Nat.le_refl _)
    rw [← Pf_len] at this
    simp
    refine ⟨by omega, ?_⟩
    rw [lc_map dP (fun p => .tup (p.1.map .int)) (Pf ks f n) fun p hp => by simp [dP, c_front_1]]
    simp
end DL
namespace DL
open PySem L2
def tab (n : Nat) (f : Nat → Int) : List D := ((List.range n).map f).map D.int
@[simp] theorem tab_len {n : Nat} {f : Nat → Int} : (tab n f).length = n := by simp [tab]
@[simp] theorem dSumA_tab {n : Nat} {f : Nat → Int} : dSumA [.lst (tab n f)] = some (.int ((List.range n).map f).sum) := dSumA_lst
theorem tab_get {n i : Nat} {f : Nat → Int} (h : i < n) : (tab n f)[i]? = some (.int (f i)) := by
  unfold tab
  rw [List.getElem?_map, List.getElem?_map, List.getElem?_range h]
  rfl
theorem tab_at {n : Nat} {t : Int} {f : Nat → Int} (h0 : 0 ≤ t) (h : t < n) : atI (tab n f) t = some (.int (f t.toNat)) := by
  rw [atI_in h0 (by rw [tab_len]; omega)]
  have := tab_get (f := f) (show t.toNat < n by omega)
  rw [List.getElem?_eq_getElem (by rw [tab_len]; omega)] at this
  exact this
theorem tab_ext {n : Nat} {f g : Nat → Int} (h : ∀ i, i < n → f i = g i) : tab n f = tab n g := by
  unfold tab
  congr 1
  apply List.map_congr_left
  intro i hi
  exact h i (List.mem_range.mp hi)
theorem tab_set {n i : Nat} {f : Nat → Int} {x : Int} : (tab n f).set i (.int x) = tab n (fun j => if j = i then x else f j) := by
  apply List.ext_getElem?
  intro j
  rw [List.getElem?_set]
  by_cases hj : j < n
  · rw [tab_get hj, tab_get hj, tab_len]
    by_cases e : i = j
    · subst e; simp [hj]
    · simp [e, Ne.symm e]
  · rw [List.getElem?_eq_none (l := tab n f) (by rw [tab_len]; omega), List.getElem?_eq_none (l := tab n fun j => if j = i then x else f j) (by rw [tab_len]; omega), tab_len]
    split
    · simp; omega
    · rfl
def acc (c : Nat → Nat) (ks : List (List Int)) (v : Int) : Nat → Nat
  | 0 => 0
  | k + 1 => acc c ks v k + c k * (ks.getD k []).count v
theorem count_snoc {k : List Int} {e : Nat} {u v : Int} (h : k[e]? = some u) : (k.take (e + 1)).count v = (k.take e).count v + if u = v then 1 else 0 := by
  rw [List.take_add_one, h]
  simp [List.count_append, List.count_cons]
theorem y_next_counts (ks : List (List Int)) (c : Nat → Nat) (hk : KOK 81 20 ks) : wo (d_next_counts [dKs ks, .lst (tab ks.length fun i => c i)]) fun d =>
    d = .tup [.lst (tab ks.length fun t => acc c ks t ks.length), .lst (tab 3 fun m => acc c ks (-1 - (m : Int)) ks.length)] := by
  apply fnD_of
  rw [startD_ev]
  have hle := hk.le
  simp [dKs]
  refine ⟨by omega, ?_⟩
  refine wp_loop (rngL 0 ks.length) (fun k r => ∃ x4 x5 : LV, r = [.sh (dKs ks), .sh (.lst (tab ks.length fun i => c i)), .ow (tab ks.length fun t => acc c ks t k), .ow (tab 3 fun m => acc c ks (-1 - (m : Int)) k), x4, x5]) (by simp; omega) ⟨.no, .no, ?_⟩ ?_ ?_
  · simp [tab, acc, dKs]
    refine ⟨?_, rfl⟩
    apply List.ext_getElem <;> simp
  · rintro k _ _ hd ⟨x4, x5, rfl⟩
    obtain ⟨rfl, hi⟩ := rng_get hd
    have hkl : k < ks.length := by omega
    have hg := List.getElem?_eq_getElem hkl
    obtain ⟨hk1, hk2⟩ := hk.ok _ (List.getElem_mem hkl)
    have hgd : ks.getD k [] = ks[k] := by simp [List.getD_eq_getElem?_getD, hkl]
    have hat : dIx (dKs ks) (.int (k : Int)) = some (dK ks[k]) := by
      rw [dKs, dIx_tup, atI_val (x := ks[k]) (by omega) (by simpa using hg)]
    have hct : atI (tab ks.length fun i => (c i : Int)) (k : Int) = some (.int (c k)) := by rw [tab_at (by omega) (by omega)]; simp
    generalize ks[k] = kd at *
    simp [b_next_counts_1, hct]
    refine ⟨fun h => ?_, fun h => ?_⟩
    · refine wp_loop (kd.map .int) (fun e r => ∃ x5 : LV, r = [.sh (dKs ks), .sh (.lst (tab ks.length fun i => c i)), .ow (tab ks.length fun t => acc c ks t k + c k * (kd.take e).count (t : Int)), .ow (tab 3 fun m => acc c ks (-1 - (m : Int)) k + c k * (kd.take e).count (-1 - (m : Int))), .sh (.int k), x5]) (by simp [hat]; simp [dK]) ⟨x5, by simp⟩ ?_ ?_
      · rintro e _ _ he ⟨x5, rfl⟩
        rw [List.getElem?_map] at he
        obtain ⟨u, hu, rfl⟩ := Option.map_eq_some_iff.mp he
        obtain ⟨u1, u2⟩ := hk2 u (List.mem_of_getElem? hu)
        simp [b_next_counts_2]
        refine ⟨fun h0 => ?_, fun h0 => ?_⟩
        · rw [ixN_in h0 u2]
          simp [tab_get (show u.toNat < ks.length by omega), hct, tab_set]
          refine ⟨tab_ext fun j hj => ?_, tab_ext fun j hj => ?_⟩
          · rw [count_snoc hu]
            by_cases e : j = u.toNat
            · have hu' : u = (j : Int) := by omega
              rw [if_pos e, if_pos hu', Int.max_eq_left h0, hu']
              push_cast
              rw [Int.mul_add, Int.mul_one]
              omega
            · rw [if_neg e, if_neg (by omega)]
              rfl
          · rw [count_snoc hu, if_neg (by omega)]
            rfl
        · rw [ixN_in (by omega) (by omega)]
          simp [tab_get (show (-1 - u).toNat < 3 by omega), hct, tab_set]
          refine ⟨tab_ext fun j hj => ?_, tab_ext fun j hj => ?_⟩
          · rw [count_snoc hu, if_neg (by omega)]
            rfl
          · rw [count_snoc hu]
            by_cases e : j = (-1 - u).toNat
            · have hu' : u = -1 - (j : Int) := by omega
              rw [if_pos e, if_pos hu', Int.max_eq_left (by omega), show -1 - (-1 - u) = u by omega, hu']
              push_cast
              rw [Int.mul_add, Int.mul_one]
              omega
            · rw [if_neg e, if_neg (by omega)]
              rfl
      · rintro _ ⟨x5, rfl⟩
        simp
        refine ⟨tab_ext fun j hj => ?_, tab_ext fun j hj => ?_⟩
        · simp only [acc, hgd]; push_cast; rfl
        · simp only [acc, hgd]; push_cast; rfl
    · refine ⟨tab_ext fun j hj => ?_, tab_ext fun j hj => ?_⟩
      · simp only [acc, h]; simp
      · simp only [acc, h]; simp
  · rintro _ ⟨x4, x5, rfl⟩
    simp [frz]
def Tg (ps : List Pr) : List Int := ps.map (·.2)
def CC (ps : List Pr) (v : Int) : Nat := (Tg ps).count v
theorem CC_cons {p : Pr} {ps : List Pr} {v : Int} : CC (p :: ps) v = CC ps v + if p.2 = v then 1 else 0 := by
  simp [CC, Tg, List.count_cons]
theorem CC_app {ps qs : List Pr} {v : Int} : CC (ps ++ qs) v = CC ps v + CC qs v := by
  simp [CC, Tg]
theorem CC_nxt {ks : List (List Int)} {p : Pr} (h : 0 ≤ p.2) {v : Int} : CC (nxt ks p) v = (kid ks p.2).count v := by
  unfold CC Tg
  rw [nxt_pos h, List.map_map]
  have := range_getD (kid ks p.2)
  rw [show ((fun x => x.2) ∘ fun (e : Nat) => (p.1 ++ [(e : Int)], (kid ks p.2).getD e 0)) = fun e => (kid ks p.2).getD e 0 from rfl, this]
theorem acc_bump {c d : Nat → Nat} {ks : List (List Int)} {v : Int} {j : Nat} (h : ∀ i, d i = c i + if j = i then 1 else 0) : ∀ n, acc d ks v n = acc c ks v n + if j < n then (ks.getD j []).count v else 0
  | 0 => by simp [acc]
  | n + 1 => by
    unfold acc
    rw [acc_bump h n, h n, Nat.add_mul]
    by_cases e : j = n
    · subst e
      simp
      omega
    · by_cases e2 : j < n
      · simp [e, e2, show j < n + 1 by omega]
        omega
      · simp [e, e2, show ¬ j < n + 1 by omega]
theorem CC_turn {m n : Nat} {ks : List (List Int)} (hk : KOK m n ks) {v : Int} : ∀ (ps : List Pr), (∀ p ∈ ps, -3 ≤ p.2 ∧ p.2 < ks.length) → CC (ps.flatMap (nxt ks)) v = (if v < 0 then CC ps v else 0) + acc (fun i => CC ps (i : Int)) ks v ks.length
  | [], _ => by
    have z : ∀ n, acc (fun i => CC [] (i : Int)) ks v n = 0 := fun n => by
      induction n with
      | zero => rfl
      | succ n ih => rw [acc, ih]; simp [CC, Tg]
    rw [z]
    simp [CC, Tg]
  | p :: ps, h => by
    have ih := CC_turn hk (v := v) ps fun q hq => h q (List.mem_cons_of_mem _ hq)
    obtain ⟨h1, h2⟩ := h p List.mem_cons_self
    rw [List.flatMap_cons, CC_app, ih]
    by_cases hp : p.2 < 0
    · rw [nxt_neg hp]
      have : (fun i : Nat => CC (p :: ps) (i : Int)) = fun i : Nat => CC ps (i : Int) := by
        funext i
        rw [CC_cons, if_neg (by omega)]
        rfl
      rw [this]
      by_cases hv : v < 0
      · rw [if_pos hv, if_pos hv, CC_cons, CC_cons]
        simp [CC, Tg]
        omega
      · rw [if_neg hv, if_neg hv, CC_cons, if_neg (by omega)]
        simp [CC, Tg]
    · obtain ⟨k1, k2, k3⟩ := kid_ok hk (by omega) h2
      have hgd : ks.getD p.2.toNat [] = kid ks p.2 := rfl
      rw [CC_nxt (by omega), acc_bump (c := fun i => CC ps (i : Int)) (d := fun i => CC (p :: ps) (i : Int)) (j := p.2.toNat) (fun i => by
        show CC (p :: ps) (i : Int) = _
        rw [CC_cons]
        congr 1
        by_cases e : p.2 = (i : Int)
        · rw [if_pos e, if_pos (by omega)]
        · rw [if_neg e, if_neg (by omega)]) ks.length, if_pos (show p.2.toNat < ks.length by omega), hgd]
      by_cases hv : v < 0
      · rw [if_pos hv, if_pos hv, CC_cons, if_neg (by omega)]
        omega
      · rw [if_neg hv, if_neg hv]
        omega
theorem acc_ext {c d : Nat → Nat} {ks : List (List Int)} {v : Int} (h : ∀ i, c i = d i) : ∀ n, acc c ks v n = acc d ks v n
  | 0 => rfl
  | n + 1 => by rw [acc, acc, acc_ext h n, h n]
theorem y_count_front (ks : List (List Int)) (f : Int) (n : Nat) (hk : KOK 81 20 ks) (h0 : 0 ≤ f) (h1 : f < ks.length) (hn : n < 1000) : wo (d_count_front [dBook ks, .int n, .int f]) fun d =>
    d = .tup [.int ((List.range ks.length).map fun i : Nat => (CC (Pf ks f n) (i : Int) : Int)).sum, .int (CC (Pf ks f n) (-1)), .int (CC (Pf ks f n) (-2)), .int (CC (Pf ks f n) (-3))] := by
  apply fnD_of
  rw [startD_ev]
  have hle := hk.le
  simp [dKs]
  refine ⟨by omega, ?_⟩
  rw [ixN_in h0 h1]
  simp
  have z0 : ∀ v, CC (Pf ks f 0) v = if f = v then 1 else 0 := fun v => by simp [Pf, CC, Tg, List.count_cons]
  have z3 : (tab 3 fun m => (CC (Pf ks f 0) (-1 - (m : Int)) : Int)) = [.int 0, .int 0, .int 0] := by
    rw [tab_ext (g := fun _ => 0) fun m _ => by rw [z0, if_neg (by omega)]; rfl]
    rfl
  have zr : List.replicate ks.length (D.int 0) = tab ks.length fun _ => 0 := by
    apply List.ext_getElem <;> simp [tab]
  have zn : (tab ks.length fun j => (CC (Pf ks f 0) (j : Int) : Int)) = (List.replicate ks.length (D.int 0)).set f.toNat (D.int 1) := by
    rw [zr, tab_set]
    refine tab_ext fun j hj => ?_
    rw [z0]
    by_cases e : f = (j : Int)
    · rw [if_pos e, if_pos (by omega)]; rfl
    · rw [if_neg e, if_neg (by omega)]; rfl
  refine wp_loop (rngL 0 n) (fun i r => ∃ x3 x5 x6 x7 : LV, r = [.sh (dBook ks), .sh (.int n), .sh (.int f), x3, .sh (.lst (tab 3 fun m => CC (Pf ks f i) (-1 - (m : Int)))), x5, x6, x7] ∧ (x3 = .ow (tab ks.length fun j => CC (Pf ks f i) (j : Int)) ∨ x3 = .sh (.lst (tab ks.length fun j => CC (Pf ks f i) (j : Int))))) (by simp; omega) ⟨_, .no, .no, .no, by rw [z3], .inl (by rw [zn])⟩ ?_ ?_
  · rintro i _ _ hi ⟨x3, x5, x6, x7, rfl, hx⟩
    obtain ⟨rfl, hi⟩ := rng_get hi
    have hb := y_next_counts ks (fun j => CC (Pf ks f i) (j : Int)) hk
    have hok := Pf_ok hk (by omega) h1 i
    have tf : ∀ v, CC (Pf ks f (i + 1)) v = _ := fun v => CC_turn hk (v := v) (Pf ks f i) fun p hp => (hok p hp).1
    simp
    apply wp_cut (fun r => ∃ x5 x6 x7, r = [.sh (dBook ks), .sh (.int n), .sh (.int f), .sh (.lst (tab ks.length fun j => CC (Pf ks f (i + 1)) (j : Int))), .sh (.lst (tab 3 fun m => CC (Pf ks f i) (-1 - (m : Int)))), x5, .sh (.lst (tab 3 fun m => acc (fun j => CC (Pf ks f i) (j : Int)) ks (-1 - (m : Int)) ks.length)), x7])
    · have step : ∀ Q : D → Prop, Q (.tup [.lst (tab ks.length fun t => acc (fun j => CC (Pf ks f i) (j : Int)) ks t ks.length), .lst (tab 3 fun m => acc (fun j => CC (Pf ks f i) (j : Int)) ks (-1 - (m : Int)) ks.length)]) → wo (d_next_counts [dKs ks, .lst (tab ks.length fun j => CC (Pf ks f i) (j : Int))]) Q := fun Q q => hb.mono fun d e => by rw [e]; exact q
      have te : (tab ks.length fun t => (acc (fun j => CC (Pf ks f i) (j : Int)) ks t ks.length : Int)) = tab ks.length fun j => (CC (Pf ks f (i + 1)) (j : Int) : Int) := tab_ext fun j hj => by rw [tf, if_neg (by omega)]; simp
      rcases hx with rfl | rfl
      · simp [frz]
        apply step
        simp [te]
        exact ⟨_, x7, rfl⟩
      · simp [frz]
        apply step
        simp [te]
        exact ⟨_, x7, rfl⟩
    · rintro _ ⟨x5, x6, x7, rfl⟩
      have t3 : ∀ g : Nat → Int, tab 3 g = [.int (g 0), .int (g 1), .int (g 2)] := fun g => rfl
      have r3 : rngL 0 3 = (List.range 3).map fun k : Nat => D.int (k : Int) := rfl
      simp
      rw [r3, lc_map (fun k : Nat => D.int (k : Int)) (fun k => .int ((CC (Pf ks f (i + 1)) (-1 - (k : Int)) : Nat) : Int)) (List.range 3) fun k hk' => ?_]
      · simp [t3]
        exact ⟨_, ⟨rfl, rfl⟩, .inr rfl⟩
      · have hk3 := List.mem_range.mp hk'
        simp [c_count_front_1]
        rw [tab_at (by omega) (by omega), tab_at (by omega) (by omega)]
        simp
        rw [tf (-1 - (k : Int)), if_pos (by omega)]
        simp
  · rintro _ ⟨x3, x5, x6, x7, rfl, hx⟩
    have t3 : ∀ g : Nat → Int, tab 3 g = [.int (g 0), .int (g 1), .int (g 2)] := fun g => rfl
    simp at hx
    rcases hx with rfl | rfl
    · simp [t3]
    · simp [t3]
end DL
namespace DL
open PySem L2
theorem y_same_row (a : List Int) (due : D) (hd : due = .lst (a.map .int) ∨ due = .tup (a.map .int)) (ha : a.length < 1000000) : wo (d_law_same_row [.tup (a.map .int), due]) fun d => d = .bl true := by
  apply fnD_of
  rw [startD_ev]
  have hl : dLen [due] = some (.int a.length) := by rcases hd with rfl | rfl <;> simp
  have hx : ∀ i : Int, dIx due (.int i) = atI (a.map .int) i := fun i => by rcases hd with rfl | rfl <;> rfl
  simp [tyN, isTy, hl]
  refine wp_loop (rngL 0 a.length) (fun i r => ∃ x2 : LV, r = [.sh (.tup (a.map .int)), .sh due, x2]) (by simp [hl]; omega) ⟨.no, rfl⟩ ?_ ?_
  · rintro i _ _ hi ⟨x2, rfl⟩
    obtain ⟨rfl, hi⟩ := rng_get hi
    have hz : atI (a.map D.int) (i : Int) = some (.int a[i]) := atI_int (List.getElem?_eq_getElem (by omega))
    simp [b_law_same_row_1, hx, hz]
  · rintro _ ⟨x2, rfl⟩
    simp
theorem y_same_rows (a : List (List Int)) (due : D) (hd : due = .lst (a.map dK) ∨ due = .tup (a.map dK)) (ha : a.length < 1000000) (hb : ∀ k ∈ a, k.length < 1000000) : wo (d_law_same_rows [.tup (a.map dK), due]) fun d => d = .bl true := by
  apply fnD_of
  rw [startD_ev]
  have hl : dLen [due] = some (.int a.length) := by rcases hd with rfl | rfl <;> simp
  have hx : ∀ i : Int, dIx due (.int i) = atI (a.map dK) i := fun i => by rcases hd with rfl | rfl <;> rfl
  simp [tyN, isTy, hl]
  refine wp_loop (rngL 0 a.length) (fun i r => ∃ x2 : LV, r = [.sh (.tup (a.map dK)), .sh due, x2]) (by simp [hl]; omega) ⟨.no, rfl⟩ ?_ ?_
  · rintro i _ _ hi ⟨x2, rfl⟩
    obtain ⟨rfl, hi⟩ := rng_get hi
    have hil : i < a.length := by omega
    have hz : atI (a.map dK) (i : Int) = some (dK a[i]) := atI_val (by omega) (by simp)
    simp [b_law_same_rows_1, hx, hz]
    refine (y_same_row a[i] _ (.inr rfl) (hb _ (List.getElem_mem hil))).mono ?_
    rintro _ rfl
    simp
  · rintro _ ⟨x2, rfl⟩
    simp
def nk (p : Pr) : Nat := (-p.2).toNat
theorem NN_neg (ps : List Pr) (m : Nat) : (ps.map nk).count (m + 1) = CC ps (-1 - (m : Int)) := by
  induction ps with
  | nil => rfl
  | cons p ps ih =>
    rw [CC_cons, ← ih, List.map_cons, List.count_cons]
    congr 1
    unfold nk
    by_cases h : p.2 = -1 - (m : Int)
    · rw [if_pos h, if_pos (by simp; omega)]
    · rw [if_neg h, if_neg (by simp; omega)]
theorem sum_bump (f g : Nat → Int) (j : Nat) (h : ∀ i, g i = f i + if j = i then 1 else 0) : ∀ n, ((List.range n).map g).sum = ((List.range n).map f).sum + if j < n then 1 else 0
  | 0 => by simp
  | n + 1 => by
    rw [List.range_succ, List.map_append, List.map_append, List.sum_append, List.sum_append, sum_bump f g j h n]
    simp
    rw [h n]
    by_cases e : j = n
    · subst e; simp; omega
    · by_cases e2 : j < n
      · simp [e, e2, show j < n + 1 by omega]; omega
      · simp [e, e2, show ¬ j < n + 1 by omega]
theorem NN_zero (n : Nat) : ∀ (ps : List Pr), (∀ p ∈ ps, p.2 < n) → ((ps.map nk).count 0 : Int) = ((List.range n).map fun i : Nat => (CC ps (i : Int) : Int)).sum
  | [], _ => by
    have : (fun i : Nat => (CC [] (i : Int) : Int)) = fun _ => 0 := rfl
    rw [this]
    induction n with
    | zero => rfl
    | succ n ih => rw [List.range_succ]; simp at ih ⊢; exact ih
  | p :: ps, h => by
    have ih := NN_zero n ps fun q hq => h q (List.mem_cons_of_mem _ hq)
    have h1 := h p List.mem_cons_self
    rw [List.map_cons, List.count_cons]
    push_cast
    rw [ih]
    by_cases e : 0 ≤ p.2
    · rw [sum_bump (fun i => (CC ps (i : Int) : Int)) (fun i => (CC (p :: ps) (i : Int) : Int)) p.2.toNat (fun i => by
        rw [CC_cons]
        push_cast
        congr 1
        by_cases e2 : p.2 = (i : Int)
        · rw [if_pos e2, if_pos (by omega)]; rfl
        · rw [if_neg e2, if_neg (by omega)]; rfl) n, if_pos (show p.2.toNat < n by omega), if_pos (show (nk p == 0) = true by simp [nk]; omega)]
      rfl
    · have : (fun i : Nat => (CC (p :: ps) (i : Int) : Int)) = fun i : Nat => (CC ps (i : Int) : Int) := by
        funext i
        rw [CC_cons, if_neg (by omega)]
        rfl
      rw [this, if_neg (show ¬ (nk p == 0) = true by simp [nk]; omega)]
      simp
theorem y_is_front (ks : List (List Int)) (f : Int) (n lim : Nat) (b : Bool) (hk : KOK 81 20 ks) (h0 : 0 ≤ f) (h1 : f < ks.length) (hn : n < 1000) (hlim : lim < 1000000) (hf : FitAll ks f lim n) (hb : b = false → f = 0) :
    wo (d_law_is_front [dBook ks, dKs ks, .int f, .int n, .bl b]) fun d => d = .bl true := by
  apply fnD_of
  rw [startD_ev]
  have hok := Pf_ok hk (by omega) h1 n
  have hle := hk.le
  have hlen := hf n (Nat.le_refl _)
  rw [← Pf_len] at hlen
  apply wp_cut (fun r => r = [.sh (dBook ks), .sh (dKs ks), .sh (.int f), .sh (.int n), .sh (.bl b), .sh (.lst ((Pf ks f n).map dP)), .no, .no, .no, .no])
  · simp
    refine (y_law_front ks f n lim hk h0 h1 hn hlim hf).mono ?_
    rintro _ rfl
    simp
  rintro _ rfl
  have hF := y_front ks f n lim hk h0 h1 hn hlim hf
  have hC := y_count_front ks f n hk h0 h1 hn
  generalize Pf ks f n = ps at *
  simp
  refine wp_loop (ps.map dP) (fun i r => ∃ x7 : LV, r = [.sh (dBook ks), .sh (dKs ks), .sh (.int f), .sh (.int n), .sh (.bl b), .sh (.lst (ps.map dP)), .ow (tab 4 fun j => ((ps.take i).map nk).count j), x7, .no, .no]) (by simp) ⟨.no, by simp [tab, List.range, List.range.loop]⟩ ?_ ?_
  · rintro i _ _ hi ⟨x7, rfl⟩
    rw [List.getElem?_map] at hi
    obtain ⟨p, hp, rfl⟩ := Option.map_eq_some_iff.mp hi
    obtain ⟨⟨p1, p2⟩, p3⟩ := hok p (List.mem_of_getElem? hp)
    have hm : (if -p.2 > 0 then -p.2 else 0) = ((nk p : Nat) : Int) := by unfold nk; split <;> omega
    have hnk : nk p < 4 := by unfold nk; omega
    have hc : ∀ j, ((ps.take (i + 1)).map nk).count j = ((ps.take i).map nk).count j + if nk p = j then 1 else 0 := fun j => by
      rw [List.take_add_one, hp]
      simp [List.count_cons]
    simp only [gt_iff_lt, Int.neg_pos] at hm
    simp [b_law_is_front_1, dP, hm]
    rw [tab_at (by omega) (by omega), ixN_in (by omega) (by omega)]
    simp [tab_set]
    refine tab_ext fun j hj => ?_
    have := hc j
    simp at this
    rw [this]
    by_cases e : j = nk p
    · rw [if_pos e, if_pos e.symm, e]
      rfl
    · rw [if_neg e, if_neg (Ne.symm e)]
      rfl
  · rintro _ ⟨x7, rfl⟩
    simp
    have te : (tab 4 fun j => (((ps.map nk).count j : Nat) : Int)) = [.int ((List.range ks.length).map fun i : Nat => (CC ps (i : Int) : Int)).sum, .int (CC ps (-1)), .int (CC ps (-2)), .int (CC ps (-3))] := by
      show [D.int (((ps.map nk).count 0 : Nat) : Int), D.int (((ps.map nk).count (0 + 1) : Nat) : Int), D.int (((ps.map nk).count (1 + 1) : Nat) : Int), D.int (((ps.map nk).count (2 + 1) : Nat) : Int)] = _
      rw [NN_zero ks.length ps (fun p hp => (hok p hp).1.2), NN_neg ps 0, NN_neg ps 1, NN_neg ps 2]
      rfl
    rw [te]
    have hrows : ∀ k ∈ ps.map (·.1), k.length < 1000000 := fun k hk' => by
      obtain ⟨p, hp, rfl⟩ := List.mem_map.mp hk'
      have := (hok p hp).2
      omega
    have lc : ∀ ρ : Env, ρ.length = 10 → lcL (nmG 7) yesT c_law_is_front_1 ρ (ps.map dP) = some ((ps.map (·.1)).map dK) := fun ρ hρ => by
      rw [lc_map dP (fun p => dK p.1) ps fun p hp => ?_, List.map_map]
      · rfl
      · match ρ, hρ with
        | [y0, y1, y2, y3, y4, y5, y6, y7, y8, y9], _ => simp [c_law_is_front_1, dP, dK]
    have e1 := y_same_rows (ps.map (·.1)) (.lst ((ps.map (·.1)).map dK)) (.inl rfl) (by simp; omega) hrows
    have e2 := y_same_row [((List.range ks.length).map fun i : Nat => (CC ps (i : Int) : Int)).sum, (CC ps (-1) : Int), (CC ps (-2) : Int), (CC ps (-3) : Int)] _ (.inl rfl) (by simp)
    have hmm : (ps.map fun p => D.tup (p.1.map .int)) = (ps.map (·.1)).map dK := by rw [List.map_map]; rfl
    rw [hmm] at hF
    simp only [List.map_cons, List.map_nil] at e2
    obtain ⟨_, f1, rfl⟩ := hF
    obtain ⟨_, f2, rfl⟩ := hC
    obtain ⟨_, f3, rfl⟩ := e1
    obtain ⟨_, f4, rfl⟩ := e2
    have f1' : f ≤ 0 → d_front (dBook ks :: D.int n :: df_front) = _ := fun h => by
      have : f = 0 := by omega
      subst this
      exact f1
    have f2' : f ≤ 0 → d_count_front (dBook ks :: D.int n :: df_count_front) = _ := fun h => by
      have : f = 0 := by omega
      subst this
      exact f2
    refine ⟨fun hb => ?_, fun hb' => ⟨fun hp => ?_, fun hp => ?_⟩⟩
    · rw [f1, f2]
      simp only [wo_some]
      refine ⟨by omega, ?_⟩
      rw [lc _ rfl]
      simp only [wo_some, f3, f4, asBl_bl]
      simp
    · have := hb hb'
      omega
    · rw [f1' hp, f2' hp]
      simp only [wo_some]
      refine ⟨by omega, ?_⟩
      rw [lc _ rfl]
      simp only [wo_some, f3, f4, asBl_bl]
      simp
structure It where
  f : Int
  n : Nat
  b : Bool
def dIt (t : It) : D := .tup [.int t.f, .int t.n, .bl t.b]
structure ItOK (ks : List (List Int)) (lim : Nat) (t : It) : Prop where
  f0 : 0 ≤ t.f
  f1 : t.f < ks.length
  n : t.n < 1000
  fit : FitAll ks t.f lim t.n
  b : t.b = false → t.f = 0
theorem FitAll.le {ks : List (List Int)} {f : Int} {lim n m : Nat} (h : FitAll ks f lim n) (hm : m ≤ n) : FitAll ks f lim m := fun j hj => h j (by omega)
theorem y_law_asked (ks : List (List Int)) (row : List Int) (lim c : Nat) (hk : KOK 81 20 ks) (hr : Fits row [52, 840, 840, 13, 13, 4]) (hl : 0 < lim) : wo (d_law_asked [dKs ks, .lst (row.map .int), .int lim, .int c]) fun d => ∃ ts : List It, d = .lst (ts.map dIt) ∧ ∀ t ∈ ts, ItOK ks lim t := by
  apply fnD_of
  rw [startD_ev]
  obtain ⟨r0, e0, l0, u0⟩ := hr.get (i := 0) (by omega) (s := 52) rfl
  obtain ⟨r1, e1, l1, u1⟩ := hr.get (i := 1) (by omega) (s := 840) rfl
  obtain ⟨r2, e2, l2, u2⟩ := hr.get (i := 2) (by omega) (s := 840) rfl
  obtain ⟨r3, e3, l3, u3⟩ := hr.get (i := 3) (by omega) (s := 13) rfl
  obtain ⟨r4, e4, l4, u4⟩ := hr.get (i := 4) (by omega) (s := 13) rfl
  obtain ⟨r5, e5, l5, u5⟩ := hr.get (i := 5) (by omega) (s := 4) rfl
  have hne := hk.ne
  have hd : dLen [dKs ks] = some (.int ks.length) := by simp [dKs]
  have a1 : 0 ≤ r1 % (ks.length : Int) := Int.emod_nonneg _ (by omega)
  have b1 : r1 % (ks.length : Int) < ks.length := Int.emod_lt_of_pos _ (by omega)
  have a2 : 0 ≤ r2 % (ks.length : Int) := Int.emod_nonneg _ (by omega)
  have b2 : r2 % (ks.length : Int) < ks.length := Int.emod_lt_of_pos _ (by omega)
  obtain ⟨w, hw⟩ := Int.eq_ofNat_of_zero_le (a := if r0 < 12 then r0 else 12) (by split <;> omega)
  have hw' : w < 1000 := by split at hw <;> omega
  obtain ⟨v, rfl⟩ := Int.eq_ofNat_of_zero_le l4
  have h0 := y_law_fitting ks 0 w lim hk (by omega) (by omega) hw' hl
  obtain ⟨_, g0, n0, rfl, n0', fit0⟩ := h0
  obtain ⟨_, g1, n1, rfl, n1', fit1⟩ := y_law_fitting ks (r1 % (ks.length : Int)) w lim hk a1 b1 hw' hl
  obtain ⟨_, g2, n2, rfl, n2', fit2⟩ := y_law_fitting ks (r2 % (ks.length : Int)) v lim hk a2 b2 (by omega) hl
  simp [hd, e0, e1, e2, e3, e4, e5, hw, g0, g1, g2, hne]
  have a3 : 0 ≤ r3 % ((n0 : Int) + 1) := Int.emod_nonneg _ (by omega)
  have b3 : r3 % ((n0 : Int) + 1) < (n0 : Int) + 1 := Int.emod_lt_of_pos _ (by omega)
  obtain ⟨n3, hn3⟩ := Int.eq_ofNat_of_zero_le (a := if 1 < (n0 : Int) then (n0 : Int) - 1 else 0) (by split <;> omega)
  have h3 : n3 ≤ n0 := by split at hn3 <;> omega
  obtain ⟨n4, hn4⟩ := Int.eq_ofNat_of_zero_le a3
  have h4 : n4 ≤ n0 := by omega
  rw [hn3, hn4]
  let items : List It := [⟨0, n0, decide (r5 = 0)⟩, ⟨r1 % (ks.length : Int), n1, true⟩, ⟨0, n3, false⟩, ⟨0, n4, decide (1 < r5)⟩, ⟨r2 % (ks.length : Int), n2, true⟩]
  refine ⟨items.take c, ?_, fun t ht => ?_⟩
  · show cutD (items.map dIt) none (some (c : Int)) = _
    rw [cut_b (by omega)]
    simp
  · have ht' := List.mem_of_mem_take ht
    simp only [items, List.mem_cons, List.not_mem_nil, or_false] at ht'
    rcases ht' with rfl | rfl | rfl | rfl | rfl
    · exact ⟨by simp, by simp; omega, by simp; omega, fit0, fun _ => rfl⟩
    · exact ⟨a1, b1, by simp; omega, fit1, fun h => by cases h⟩
    · exact ⟨by simp, by simp; omega, by simp; omega, fit0.le h3, fun _ => rfl⟩
    · exact ⟨by simp, by simp; omega, by simp; omega, fit0.le h4, fun _ => rfl⟩
    · exact ⟨a2, b2, by simp; omega, fit2, fun h => by cases h⟩
theorem mapO_map {α : Type} (F G : α → D) (f : D → Option D) : ∀ xs : List α, (∀ x ∈ xs, f (F x) = some (G x)) → mapO f (xs.map F) = some (xs.map G)
  | [], _ => rfl
  | x :: xs, h => by
    rw [List.map_cons, List.map_cons]
    unfold mapO
    rw [h x List.mem_cons_self, mapO_map F G f xs fun y hy => h y (List.mem_cons_of_mem _ hy)]
theorem frz_k {n : Nat} {k : List Int} (h : k.length ≤ 1000) : frzD (n + 1) (dK k) = some (dK k) := by
  unfold dK frzD
  rw [mapO_map D.int D.int (frzD n) k fun x _ => by cases n <;> rfl]
  simp
  omega
theorem frz_kl {n : Nat} {k : List Int} (h : k.length ≤ 1000) : frzD (n + 1) (.lst (k.map .int)) = some (dK k) := by
  unfold dK frzD
  rw [mapO_map D.int D.int (frzD n) k fun x _ => by cases n <;> rfl]
  simp
  omega
theorem y_i_Book {ks : List (List Int)} {m : Nat} (hk : KOK m 20 ks) (hm : m ≤ 1000) (d : D) (hd : d = dKs ks ∨ d = .lst (ks.map fun k => .lst (k.map .int))) : i_Book [d] = some [(("kinds" : Str), dKs ks)] := by
  have hle := hk.le
  have hne := hk.ne
  have h1 : frzD 3 d = some (dKs ks) := by
    rcases hd with rfl | rfl
    · unfold dKs frzD
      rw [mapO_map dK dK (frzD 2) ks fun k hk' => frz_k (by have := (hk.ok k hk').1; omega)]
      simp
      omega
    · unfold dKs frzD
      rw [mapO_map (fun k : List Int => .lst (k.map .int)) dK (frzD 2) ks fun k hk' => frz_kl (by have := (hk.ok k hk').1; omega)]
      simp
      omega
  unfold i_Book
  simp only [h1]
  unfold dKs
  simp only []
  rw [if_pos]
  refine ⟨by rw [List.length_map]; omega, by rw [List.length_map]; omega, ?_⟩
  rw [List.all_eq_true]
  intro x hx
  obtain ⟨k, hk', rfl⟩ := List.mem_map.mp hx
  obtain ⟨o1, o2⟩ := hk.ok k hk'
  simp [dK, okKind]
  refine ⟨fun t ht => ?_, by omega⟩
  have := o2 t ht
  simp [okTarget]
  omega
theorem y_moved (ks : List (List Int)) (a : Int) (hk : KOK 81 20 ks) : wo (d_moved_kinds [dKs ks, .int a]) fun d => d = .tup ((ks.map (upK a)).map dK) := by
  apply fnD_of
  rw [startD_ev]
  have hle := hk.le
  simp [dKs]
  refine ⟨by omega, ?_⟩
  rw [lc_map dK (fun k => dK (upK a k)) ks fun k hk' => ?_]
  · simp
  · have := (hk.ok k hk').1
    simp [c_moved_kinds_1, dK]
    refine ⟨by omega, ?_⟩
    rw [lc_map D.int (fun t => D.int (if 0 ≤ t then t + a else t)) k fun t ht => ?_]
    · simp [upK]
    · simp [c_moved_kinds_2]
      by_cases h : 0 ≤ t
      · simp [h]
        omega
      · simp [h]
theorem y_Book_add (l r : List (List Int)) (hl : KOK 40 20 l) (hr : KOK 40 20 r) : wo (d_Book_add [dBook l, dBook r]) fun d => d = dBook (sumK l r) := by
  apply fnD_of
  rw [startD_ev]
  have h1 := hl.le
  have h2 := hr.le
  have hs := sumK_ok hl hr
  obtain ⟨_, m1, rfl⟩ := y_moved l 1 (hl.mono (by decide) (by decide))
  obtain ⟨_, m2, rfl⟩ := y_moved r (1 + (l.length : Int)) (hr.mono (by decide) (by decide))
  have hd : dLen [dKs l] = some (.int l.length) := by simp [dKs]
  simp [hd, m1, m2]
  refine ⟨by omega, by omega, ?_⟩
  rw [y_i_Book hs (by decide) _ (.inl (by simp [dKs, sumK, dK]))]
  simp [dBook]
end DL
namespace DL
open PySem L2
abbrev lims : List Int := [18000, 6000, 1500, 1500, 1500, 1500, 1500, 1500]
theorem w_cell (ns : List Int) (k : Nat) (sizes : List Int) (hk : k < 100) (hs : ∀ s ∈ sizes, 0 < s ∧ s < 1073741824) (hl : sizes.length < 100000) : ∃ c row : _, d_law_cell [.scr ns, .int (k : Int)] = some (.int c) ∧ d_law_digits [.int c, .lst (sizes.map .int)] = some (.lst (row.map .int)) ∧ Fits row sizes := by
  obtain ⟨_, h1, c, rfl⟩ := y_law_cell ns k hk
  obtain ⟨_, h2, row, rfl, hf⟩ := y_law_digits c sizes hs hl
  exact ⟨c, row, h1, h2, hf⟩
theorem law_true (ns : List Int) (h : ns.length ≤ 63) (hb : ∀ z ∈ ns, Builtin.Int.intBits z ≤ 1048576) : d_law [.scr ns] = some (.bl true) := by
  rw [← wo_ex]
  apply fnD_of
  rw [startD_ev]
  obtain ⟨c0, head, hc0, hd0, hh⟩ := w_cell ns 0 [8, 8, 8] (by decide) (by decide) (by decide)
  obtain ⟨x0, e0, l0, u0⟩ := hh.get (i := 0) (by omega) (s := 8) rfl
  obtain ⟨x1, e1, l1, u1⟩ := hh.get (i := 1) (by omega) (s := 8) rfl
  obtain ⟨x2, e2, l2, u2⟩ := hh.get (i := 2) (by omega) (s := 8) rfl
  obtain ⟨lim, elim, hlim0, hlim1⟩ : ∃ lim : Nat, atI (lims.map D.int) x2 = some (.int lim) ∧ 0 < lim ∧ lim < 1000000 := by
    obtain h | h | h | h | h | h | h | h : x2 = 0 ∨ x2 = 1 ∨ x2 = 2 ∨ x2 = 3 ∨ x2 = 4 ∨ x2 = 5 ∨ x2 = 6 ∨ x2 = 7 := by omega
    · subst h; exact ⟨18000, rfl, by decide, by decide⟩
    · subst h; exact ⟨6000, rfl, by decide, by decide⟩
    all_goals (subst h; exact ⟨1500, rfl, by decide, by decide⟩)
  apply wp_cut (fun r => r = [.sh (.scr ns), .sh (.lst (head.map .int)), .no, .no, .no, .no, .no, .no, .no, .no, .no, .no, .no])
  · simp only [List.map_cons, List.map_nil, Int.natCast_zero] at hd0 hc0
    simp [hc0, hd0]
  rintro _ rfl
  apply wp_cut (fun r => r = [.sh (.scr ns), .sh (.lst (head.map .int)), .sh (.int lim), .no, .no, .no, .no, .no, .no, .no, .no, .no, .no])
  · simp only [List.map_cons, List.map_nil] at elim
    simp [e2, elim]
  rintro _ rfl
  apply wp_cut (fun r => r = [.sh (.scr ns), .sh (.lst (head.map .int)), .sh (.int lim), .ow [], .no, .no, .no, .no, .no, .no, .no, .no, .no])
  · simp
  rintro _ rfl
  apply wp_cut (fun r => r = [.sh (.scr ns), .sh (.lst (head.map .int)), .sh (.int lim), .ow [], .ow [], .no, .no, .no, .no, .no, .no, .no, .no])
  · simp
  rintro _ rfl
  apply wp_cut (fun r => ∃ (ts : List (List (List Int))) (x5 x6 : LV), r = [.sh (.scr ns), .sh (.lst (head.map .int)), .sh (.int lim), .ow (ts.map dKs), .ow [], x5, x6, .no, .no, .no, .no, .no, .no] ∧ ts.length = 2 ∧ ∀ t ∈ ts, KOK 40 20 t)
  · refine wp_loop (rngL 0 2) (fun i r => ∃ (ts : List (List (List Int))) (x5 x6 : LV), r = [.sh (.scr ns), .sh (.lst (head.map .int)), .sh (.int lim), .ow (ts.map dKs), .ow [], x5, x6, .no, .no, .no, .no, .no, .no] ∧ ts.length = i ∧ ∀ t ∈ ts, KOK 40 20 t) (by simp) ⟨[], .no, .no, by simp⟩ ?_ ?_
    · rintro i _ _ hi ⟨ts, x5, x6, rfl, hl, ht⟩
      obtain ⟨rfl, hi⟩ := rng_get hi
      obtain ⟨c1, more, hc1, hd1, hm⟩ := w_cell ns (3 + i) [12, 12, 21, 12, 12, 21] (by omega) (by decide) (by decide)
      obtain ⟨_, hc2, c2, rfl⟩ := y_law_cell ns (1 + i) (by omega)
      obtain ⟨y, ey, ly, uy⟩ : ∃ y : Int, atI (head.map D.int) (i : Int) = some (.int y) ∧ 0 ≤ y ∧ y < 8 := by
        obtain rfl | rfl : i = 0 ∨ i = 1 := by omega
        · exact ⟨x0, e0, l0, u0⟩
        · exact ⟨x1, e1, l1, u1⟩
      obtain ⟨_, hsm, ks, rfl, hks⟩ := y_law_some y c2 more ly uy hm
      push_cast at hc1 hc2
      simp only [List.map_cons, List.map_nil] at hd1
      simp [b_law_1, hc1, hc2, hd1, ey, hsm]
      refine ⟨by omega, ts ++ [ks], by simp, by simp [hl], fun t h => ?_⟩
      rcases List.mem_append.mp h with h | h
      · exact ht t h
      · cases List.mem_singleton.mp h
        exact hks
    · rintro _ ⟨ts, x5, x6, rfl, hl, ht⟩
      simp at hl
      simp
      exact ⟨ts, rfl, hl, ht⟩
  rintro _ ⟨ts, x5, x6, rfl, hl, ht⟩
  obtain ⟨ka, kb, rfl⟩ : ∃ a b, ts = [a, b] := by
    match ts, hl with
    | [a, b], _ => exact ⟨a, b, rfl⟩
  have ha := ht ka (by simp)
  have hb' := ht kb (by simp)
  obtain ⟨_, hsum, rfl⟩ := y_law_sum ka kb ha hb'
  have hs := sumK_ok ha hb'
  let T : List (List (List Int)) := [ka, kb, sumK ka kb]
  have hT : ∀ (j : Nat) (ks : List (List Int)), T[j]? = some ks → KOK 81 20 ks := fun j ks h => by
    have := List.mem_of_getElem? h
    simp only [T, List.mem_cons, List.not_mem_nil, or_false] at this
    rcases this with rfl | rfl | rfl
    · exact ha.mono (by decide) (by decide)
    · exact hb'.mono (by decide) (by decide)
    · exact hs
  have hTl : T.length = 3 := rfl
  apply wp_cut (fun r => r = [.sh (.scr ns), .sh (.lst (head.map .int)), .sh (.int lim), .ow (T.map dKs), .ow [], x5, x6, .no, .no, .no, .no, .no, .no])
  · simp [hsum, T]
  rintro _ rfl
  have hT' : ∀ {j : Nat} {ks : List (List Int)}, T[j]? = some ks → atI (T.map dKs) (j : Int) = some (dKs ks) := fun {j ks} h => atI_val (by omega) (by simpa using h)
  apply wp_cut (fun r => ∃ (as : List (List It)) (x5 x7 : LV), r = [.sh (.scr ns), .sh (.lst (head.map .int)), .sh (.int lim), .ow (T.map dKs), .ow (as.map fun ts => .lst (ts.map dIt)), x5, x6, x7, .no, .no, .no, .no, .no] ∧ as.length = 3 ∧ ∀ (j : Nat) (ks : List (List Int)) (ts : List It), T[j]? = some ks → as[j]? = some ts → ∀ t ∈ ts, ItOK ks lim t)
  · refine wp_loop (rngL 0 3) (fun i r => ∃ (as : List (List It)) (x5 x7 : LV), r = [.sh (.scr ns), .sh (.lst (head.map .int)), .sh (.int lim), .ow (T.map dKs), .ow (as.map fun ts => .lst (ts.map dIt)), x5, x6, x7, .no, .no, .no, .no, .no] ∧ as.length = i ∧ ∀ (j : Nat) (ks : List (List Int)) (ts : List It), T[j]? = some ks → as[j]? = some ts → ∀ t ∈ ts, ItOK ks lim t) (by simp) ⟨[], x5, .no, by simp⟩ ?_ ?_
    · rintro i _ _ hi ⟨as, x5, x7, rfl, hl, ht⟩
      obtain ⟨rfl, hi⟩ := rng_get hi
      have hti := List.getElem?_eq_getElem (l := T) (i := i) (by omega)
      have htk := hT i _ hti
      have htd := hT' hti
      obtain ⟨c1, row, hc1, hd1, hm⟩ := w_cell ns (5 + i) [52, 840, 840, 13, 13, 4] (by omega) (by decide) (by decide)
      obtain ⟨c, hc⟩ : ∃ c : Nat, atI [D.int 5, D.int 5, D.int 2] (i : Int) = some (.int c) := by
        obtain rfl | rfl | rfl : i = 0 ∨ i = 1 ∨ i = 2 := by omega
        · exact ⟨5, rfl⟩
        · exact ⟨5, rfl⟩
        · exact ⟨2, rfl⟩
      obtain ⟨_, hak, ts, rfl, hts⟩ := y_law_asked T[i] row lim c htk hm hlim0
      push_cast at hc1
      simp only [List.map_cons, List.map_nil] at hd1
      simp [b_law_2, hc1, hd1, hc, htd, hak]
      refine ⟨by omega, as ++ [ts], by simp, by simp [hl], fun j ks us hj hu => ?_⟩
      by_cases e : j < as.length
      · rw [List.getElem?_append_left e] at hu
        exact ht j ks us hj hu
      · have hj' := (List.getElem?_eq_some_iff.mp hu).1
        simp at hj'
        have : j = i := by omega
        subst this
        rw [List.getElem?_append_right (by omega)] at hu
        simp [hl] at hu
        subst hu
        rw [hti] at hj
        cases hj
        exact hts
    · rintro _ ⟨as, x5, x7, rfl, hl, ht⟩
      simp at hl
      simp
      exact ⟨as, rfl, hl, ht⟩
  rintro _ ⟨as, x5, x7, rfl, hl, ht⟩
  have hat0 : atI (T.map dKs) 0 = some (dKs ka) := hT' (j := 0) rfl
  have hat1 : atI (T.map dKs) 1 = some (dKs kb) := hT' (j := 1) rfl
  have hla := ha.le
  have hna := ha.ne
  apply wp_cut (fun r => r = [.sh (.scr ns), .sh (.lst (head.map .int)), .sh (.int lim), .ow (T.map dKs), .ow (as.map fun ts => .lst (ts.map dIt)), x5, x6, x7, .nw (ka.map fun k => k.map .int), .no, .no, .no, .no])
  · simp [hat0]
    simp only [dKs]
    simp
    refine ⟨by omega, wo_eq (lc_nest dK (fun k => k.map .int) ka fun k hk => ?_) rfl⟩
    simp [c_law_1, dK]
  rintro _ rfl
  apply wp_cut (fun r => r = [.sh (.scr ns), .sh (.lst (head.map .int)), .sh (.int lim), .ow (T.map dKs), .ow (as.map fun ts => .lst (ts.map dIt)), x5, x6, x7, .nw (ka.map fun k => k.map .int), .ow [dBook ka, dBook kb], .no, .no, .no])
  · simp [hat1]
    rw [y_i_Book hb' (by decide) _ (.inl rfl)]
    rw [y_i_Book ha (by decide) _ (.inr (by rfl))]
    simp [dBook]
  rintro _ rfl
  apply wp_cut (fun r => ∃ dss, r = [.sh (.scr ns), .sh (.lst (head.map .int)), .sh (.int lim), .ow (T.map dKs), .ow (as.map fun ts => .lst (ts.map dIt)), x5, x6, x7, .nw dss, .ow [dBook ka, dBook kb], .no, .no, .no] ∧ dss.length = ka.length)
  · simp
    rw [ixN_in (by decide) (by omega)]
    have hg := List.getElem?_eq_getElem hna
    have := (ha.ok _ (List.getElem_mem hna)).1
    simp [hg]
    omega
  rintro _ ⟨dss, rfl, hdl⟩
  apply wp_cut (fun r => ∃ x8 : LV, r = [.sh (.scr ns), .sh (.lst (head.map .int)), .sh (.int lim), .ow (T.map dKs), .ow (as.map fun ts => .lst (ts.map dIt)), x5, x6, x7, x8, .ow [dBook ka, dBook kb], .no, .no, .no])
  · simp
    omega
  rintro _ ⟨x8, rfl⟩
  let B : List D := T.map dBook
  have hB : ∀ {j : Nat} {ks : List (List Int)}, T[j]? = some ks → atI (T.map dBook) (j : Int) = some (dBook ks) := fun {j ks} h => atI_val (by omega) (by simpa using h)
  apply wp_cut (fun r => r = [.sh (.scr ns), .sh (.lst (head.map .int)), .sh (.int lim), .ow (T.map dKs), .ow (as.map fun ts => .lst (ts.map dIt)), x5, x6, x7, x8, .ow (T.map dBook), .no, .no, .no])
  · obtain ⟨_, hadd, rfl⟩ := y_Book_add ka kb ha hb'
    have hadd' : d_Book_add [.ob "Book" [("kinds", dKs ka)], .ob "Book" [("kinds", dKs kb)]] = some (dBook (sumK ka kb)) := hadd
    simp [T]
    simp [dBook, hadd']
  rintro _ rfl
  apply wp_cut (fun r => ∃ x5 x10 x11 : LV, r = [.sh (.scr ns), .sh (.lst (head.map .int)), .sh (.int lim), .ow (T.map dKs), .ow (as.map fun ts => .lst (ts.map dIt)), x5, x6, x7, x8, .ow (T.map dBook), x10, x11, .no])
  · refine wp_loop ([0, 1, 2, 3, 4, 0].map .int) (fun i r => ∃ x5 x10 x11 : LV, r = [.sh (.scr ns), .sh (.lst (head.map .int)), .sh (.int lim), .ow (T.map dKs), .ow (as.map fun ts => .lst (ts.map dIt)), x5, x6, x7, x8, .ow (T.map dBook), x10, x11, .no]) (by simp) ⟨x5, .no, .no, rfl⟩ ?_ ?_
    · rintro i d _ hi ⟨x5, x10, x11, rfl⟩
      rw [List.getElem?_map] at hi
      obtain ⟨z, hz, rfl⟩ := Option.map_eq_some_iff.mp hi
      have hz0 : 0 ≤ z := by
        have := List.mem_of_getElem? hz
        simp at this
        omega
      simp [b_law_3]
      refine wp_loop (rngL 0 3) (fun i r => ∃ x5 x11 : LV, r = [.sh (.scr ns), .sh (.lst (head.map .int)), .sh (.int lim), .ow (T.map dKs), .ow (as.map fun ts => .lst (ts.map dIt)), x5, x6, x7, x8, .ow (T.map dBook), .sh (.int z), x11, .no]) (by simp) ⟨x5, x11, rfl⟩ ?_ ?_
      · rintro j _ _ hj ⟨x5, x11, rfl⟩
        obtain ⟨rfl, hj⟩ := rng_get hj
        have hti := List.getElem?_eq_getElem (l := T) (i := j) (by omega)
        have htk := hT j _ hti
        have htd := hT' hti
        have htb := hB hti
        have haj := List.getElem?_eq_getElem (l := as) (i := j) (by omega)
        have hit := ht j _ _ hti haj
        have haa : atI (as.map fun ts => D.lst (ts.map dIt)) (j : Int) = some (.lst (as[j].map dIt)) := atI_val (by omega) (by simpa using haj)
        generalize as[j] = its at *
        generalize T[j] = ks at *
        simp [b_law_4, haa]
        intro hzl
        have hzt : its[z.toNat]? = some (its[z.toNat]'(by omega)) := List.getElem?_eq_getElem (by omega)
        have ho := hit _ (List.mem_of_getElem? hzt)
        rw [atI_val hz0 hzt]
        generalize its[z.toNat]'(by omega) = it at *
        simp [htb, htd, dIt]
        refine (y_is_front ks it.f it.n lim it.b htk ho.f0 ho.f1 ho.n hlim1 ho.fit ho.b).mono ?_
        rintro _ rfl
        simp
      · rintro _ ⟨x5, x11, rfl⟩
        exact ⟨_, _, _, rfl⟩
    · rintro _ ⟨x5, x10, x11, rfl⟩
      simp
  rintro _ ⟨x5, x10, x11, rfl⟩
  apply wp_cut (fun r => True)
  · refine wp_loop (rngL 0 3) (fun i r => ∃ x5 : LV, r = [.sh (.scr ns), .sh (.lst (head.map .int)), .sh (.int lim), .ow (T.map dKs), .ow (as.map fun ts => .lst (ts.map dIt)), x5, x6, x7, x8, .ow (T.map dBook), x10, x11, .no]) (by simp) ⟨x5, rfl⟩ ?_ ?_
    · rintro j _ _ hj ⟨x5, rfl⟩
      obtain ⟨rfl, hj⟩ := rng_get hj
      have hti := List.getElem?_eq_getElem (l := T) (i := j) (by omega)
      have htk := hT j _ hti
      have htd := hT' hti
      have htb := hB hti
      generalize T[j] = ks at *
      simp [b_law_5, htb, htd]
      have hle := htk.le
      refine (y_same_rows ks _ (.inr rfl) (by omega) fun k hk => by have := (htk.ok k hk).1; omega).mono ?_
      rintro _ rfl
      simp
    · rintro _ ⟨x5, rfl⟩
      simp
  rintro _ _
  simp
end DL
namespace DL
open PySem L2
theorem all_mk {l : PySem.W.OpenLaw} {w : World} {K : PySem.W.Frag} {h : Heap} {mg : Str → Option Value} {fa : Addr} (hP : l.prog = PP) (X : K.In h) (G : h.Ns mainGlobals mg) (hfa : mg "law" = some (.ref fa))
    {f0 f1 f2 f3 kD3 f4 f5 kD5 f6 f7 f8 f9 f10 f11 f12 f13 f14 f15 f16 f17 f18 f19 f20 f21 f22 f23 f24 f25 f26 f27 f28 C_Book : Addr} {od0 an0 od1 an1 od2 an2 od3 an3 od4 an4 od5 an5 od6 an6 od7 an7 od8 an8 od9 an9 od10 an10 od11 an11 od12 an12 od13 an13 od14 an14 od15 an15 od16 an16 od17 an17 od18 an18 od19 an19 od20 an20 od21 an21 od22 an22 od23 an23 od24 an24 od25 an25 od26 an26 od27 an27 od28 an28 : Option Addr} {sl0 sl1 sl2 sl3 sl4 sl5 sl6 sl7 sl8 sl9 sl10 sl11 sl12 sl13 sl14 sl15 sl16 sl17 sl18 sl19 sl20 sl21 sl22 sl23 sl24 sl25 sl26 sl27 sl28 : Array (Option Value)} {oc0 dc0 pm0 cd0 ct0 kV0 oc1 dc1 pm1 cd1 ct1 kV1 oc2 dc2 pm2 cd2 ct2 kV2 oc3 dc3 pm3 cd3 ct3 oc4 dc4 pm4 cd4 ct4 kV4 oc5 dc5 pm5 cd5 ct5 oc6 dc6 pm6 cd6 ct6 kV6 oc7 dc7 pm7 cd7 ct7 kV7 oc8 dc8 pm8 cd8 ct8 kV8 oc9 dc9 pm9 cd9 ct9 kV9 oc10 dc10 pm10 cd10 ct10 kV10 oc11 dc11 pm11 cd11 ct11 kV11 oc12 dc12 pm12 cd12 ct12 kV12 oc13 dc13 pm13 cd13 ct13 kV13 oc14 dc14 pm14 cd14 ct14 kV14 oc15 dc15 pm15 cd15 ct15 kV15 oc16 dc16 pm16 cd16 ct16 kV16 oc17 dc17 pm17 cd17 ct17 kV17 oc18 dc18 pm18 cd18 ct18 kV18 oc19 dc19 pm19 cd19 ct19 kV19 oc20 dc20 pm20 cd20 ct20 kV20 oc21 dc21 pm21 cd21 ct21 kV21 oc22 dc22 pm22 cd22 ct22 kV22 oc23 dc23 pm23 cd23 ct23 kV23 oc24 dc24 pm24 cd24 ct24 kV24 oc25 dc25 pm25 cd25 ct25 kV25 oc26 dc26 pm26 cd26 ct26 kV26 oc27 dc27 pm27 cd27 ct27 kV27 oc28 dc28 pm28 cd28 ct28 kV28 : Value} {tk3_0 tk5_0 : Tok}
    (a0 : PySem.W.nsIn K mainGlobals "frozen" = some (some (.ref f0)))
    (l0 : K.lookup f0 = some ⟨oc0, od0, .func (PySem.W.fnOf "frozen" "frozen" (defArgs s_frozen) (defBody s_frozen) (defScope s_frozen) .none kV0 dc0 pm0 an0 cd0 ct0), sl0⟩)
    (c0 : PySem.W.codeIn K cd0 "frozen" = true)
    (k0 : PySem.W.keepIn K (.ref f0) = true)
    (a1 : PySem.W.nsIn K mainGlobals "is_whole" = some (some (.ref f1)))
    (l1 : K.lookup f1 = some ⟨oc1, od1, .func (PySem.W.fnOf "is_whole" "is_whole" (defArgs s_is_whole) (defBody s_is_whole) (defScope s_is_whole) .none kV1 dc1 pm1 an1 cd1 ct1), sl1⟩)
    (c1 : PySem.W.codeIn K cd1 "is_whole" = true)
    (k1 : PySem.W.keepIn K (.ref f1) = true)
    (a2 : PySem.W.nsIn K mainGlobals "continued" = some (some (.ref f2)))
    (l2 : K.lookup f2 = some ⟨oc2, od2, .func (PySem.W.fnOf "continued" "continued" (defArgs s_continued) (defBody s_continued) (defScope s_continued) .none kV2 dc2 pm2 an2 cd2 ct2), sl2⟩)
    (c2 : PySem.W.codeIn K cd2 "continued" = true)
    (k2 : PySem.W.keepIn K (.ref f2) = true)
    (a3 : PySem.W.nsIn K mainGlobals "front" = some (some (.ref f3)))
    (l3 : K.lookup f3 = some ⟨oc3, od3, .func (PySem.W.fnOf "front" "front" (defArgs s_front) (defBody s_front) (defScope s_front) .none (.ref kD3) dc3 pm3 an3 cd3 ct3), sl3⟩)
    (c3 : PySem.W.codeIn K cd3 "front" = true)
    (k3 : PySem.W.keepIn K (.ref f3) = true)
    (w3_0 : PySem.W.nsIn K kD3 "start" = some (some (.int 0 tk3_0)))
    (a4 : PySem.W.nsIn K mainGlobals "next_counts" = some (some (.ref f4)))
    (l4 : K.lookup f4 = some ⟨oc4, od4, .func (PySem.W.fnOf "next_counts" "next_counts" (defArgs s_next_counts) (defBody s_next_counts) (defScope s_next_counts) .none kV4 dc4 pm4 an4 cd4 ct4), sl4⟩)
    (c4 : PySem.W.codeIn K cd4 "next_counts" = true)
    (k4 : PySem.W.keepIn K (.ref f4) = true)
    (a5 : PySem.W.nsIn K mainGlobals "count_front" = some (some (.ref f5)))
    (l5 : K.lookup f5 = some ⟨oc5, od5, .func (PySem.W.fnOf "count_front" "count_front" (defArgs s_count_front) (defBody s_count_front) (defScope s_count_front) .none (.ref kD5) dc5 pm5 an5 cd5 ct5), sl5⟩)
    (c5 : PySem.W.codeIn K cd5 "count_front" = true)
    (k5 : PySem.W.keepIn K (.ref f5) = true)
    (w5_0 : PySem.W.nsIn K kD5 "start" = some (some (.int 0 tk5_0)))
    (a6 : PySem.W.nsIn K mainGlobals "is_target" = some (some (.ref f6)))
    (l6 : K.lookup f6 = some ⟨oc6, od6, .func (PySem.W.fnOf "is_target" "is_target" (defArgs s_is_target) (defBody s_is_target) (defScope s_is_target) .none kV6 dc6 pm6 an6 cd6 ct6), sl6⟩)
    (c6 : PySem.W.codeIn K cd6 "is_target" = true)
    (k6 : PySem.W.keepIn K (.ref f6) = true)
    (a7 : PySem.W.nsIn K mainGlobals "moved_kinds" = some (some (.ref f7)))
    (l7 : K.lookup f7 = some ⟨oc7, od7, .func (PySem.W.fnOf "moved_kinds" "moved_kinds" (defArgs s_moved_kinds) (defBody s_moved_kinds) (defScope s_moved_kinds) .none kV7 dc7 pm7 an7 cd7 ct7), sl7⟩)
    (c7 : PySem.W.codeIn K cd7 "moved_kinds" = true)
    (k7 : PySem.W.keepIn K (.ref f7) = true)
    (a8 : PySem.W.findIn K (.ref C_Book) "__init__" = some (some (.ref f8)))
    (i8 : PySem.W.isFn K (.ref f8) = true)
    (l8 : K.lookup f8 = some ⟨oc8, od8, .func (PySem.W.fnOf "__init__" "Book.__init__" (defArgs s_Book_init) (defBody s_Book_init) (defScope s_Book_init) .none kV8 dc8 pm8 an8 cd8 ct8), sl8⟩)
    (c8 : PySem.W.codeIn K cd8 "Book.__init__" = true)
    (k8 : PySem.W.keepIn K (.ref f8) = true)
    (a9 : PySem.W.findIn K (.ref C_Book) "__add__" = some (some (.ref f9)))
    (i9 : PySem.W.isFn K (.ref f9) = true)
    (l9 : K.lookup f9 = some ⟨oc9, od9, .func (PySem.W.fnOf "__add__" "Book.__add__" (defArgs s_Book_add) (defBody s_Book_add) (defScope s_Book_add) .none kV9 dc9 pm9 an9 cd9 ct9), sl9⟩)
    (c9 : PySem.W.codeIn K cd9 "Book.__add__" = true)
    (k9 : PySem.W.keepIn K (.ref f9) = true)
    (a10 : PySem.W.nsIn K mainGlobals "_law_whole" = some (some (.ref f10)))
    (l10 : K.lookup f10 = some ⟨oc10, od10, .func (PySem.W.fnOf "_law_whole" "_law_whole" (defArgs s_law_whole) (defBody s_law_whole) (defScope s_law_whole) .none kV10 dc10 pm10 an10 cd10 ct10), sl10⟩)
    (c10 : PySem.W.codeIn K cd10 "_law_whole" = true)
    (k10 : PySem.W.keepIn K (.ref f10) = true)
    (a11 : PySem.W.nsIn K mainGlobals "_law_cell" = some (some (.ref f11)))
    (l11 : K.lookup f11 = some ⟨oc11, od11, .func (PySem.W.fnOf "_law_cell" "_law_cell" (defArgs s_law_cell) (defBody s_law_cell) (defScope s_law_cell) .none kV11 dc11 pm11 an11 cd11 ct11), sl11⟩)
    (c11 : PySem.W.codeIn K cd11 "_law_cell" = true)
    (k11 : PySem.W.keepIn K (.ref f11) = true)
    (a12 : PySem.W.nsIn K mainGlobals "_law_digits" = some (some (.ref f12)))
    (l12 : K.lookup f12 = some ⟨oc12, od12, .func (PySem.W.fnOf "_law_digits" "_law_digits" (defArgs s_law_digits) (defBody s_law_digits) (defScope s_law_digits) .none kV12 dc12 pm12 an12 cd12 ct12), sl12⟩)
    (c12 : PySem.W.codeIn K cd12 "_law_digits" = true)
    (k12 : PySem.W.keepIn K (.ref f12) = true)
    (a13 : PySem.W.nsIn K mainGlobals "_law_book_sizes" = some (some (.ref f13)))
    (l13 : K.lookup f13 = some ⟨oc13, od13, .func (PySem.W.fnOf "_law_book_sizes" "_law_book_sizes" (defArgs s_law_book_sizes) (defBody s_law_book_sizes) (defScope s_law_book_sizes) .none kV13 dc13 pm13 an13 cd13 ct13), sl13⟩)
    (c13 : PySem.W.codeIn K cd13 "_law_book_sizes" = true)
    (k13 : PySem.W.keepIn K (.ref f13) = true)
    (a14 : PySem.W.nsIn K mainGlobals "_law_target" = some (some (.ref f14)))
    (l14 : K.lookup f14 = some ⟨oc14, od14, .func (PySem.W.fnOf "_law_target" "_law_target" (defArgs s_law_target) (defBody s_law_target) (defScope s_law_target) .none kV14 dc14 pm14 an14 cd14 ct14), sl14⟩)
    (c14 : PySem.W.codeIn K cd14 "_law_target" = true)
    (k14 : PySem.W.keepIn K (.ref f14) = true)
    (a15 : PySem.W.nsIn K mainGlobals "_law_book" = some (some (.ref f15)))
    (l15 : K.lookup f15 = some ⟨oc15, od15, .func (PySem.W.fnOf "_law_book" "_law_book" (defArgs s_law_book) (defBody s_law_book) (defScope s_law_book) .none kV15 dc15 pm15 an15 cd15 ct15), sl15⟩)
    (c15 : PySem.W.codeIn K cd15 "_law_book" = true)
    (k15 : PySem.W.keepIn K (.ref f15) = true)
    (a16 : PySem.W.nsIn K mainGlobals "_law_row_sizes" = some (some (.ref f16)))
    (l16 : K.lookup f16 = some ⟨oc16, od16, .func (PySem.W.fnOf "_law_row_sizes" "_law_row_sizes" (defArgs s_law_row_sizes) (defBody s_law_row_sizes) (defScope s_law_row_sizes) .none kV16 dc16 pm16 an16 cd16 ct16), sl16⟩)
    (c16 : PySem.W.codeIn K cd16 "_law_row_sizes" = true)
    (k16 : PySem.W.keepIn K (.ref f16) = true)
    (a17 : PySem.W.nsIn K mainGlobals "_law_row" = some (some (.ref f17)))
    (l17 : K.lookup f17 = some ⟨oc17, od17, .func (PySem.W.fnOf "_law_row" "_law_row" (defArgs s_law_row) (defBody s_law_row) (defScope s_law_row) .none kV17 dc17 pm17 an17 cd17 ct17), sl17⟩)
    (c17 : PySem.W.codeIn K cd17 "_law_row" = true)
    (k17 : PySem.W.keepIn K (.ref f17) = true)
    (a18 : PySem.W.nsIn K mainGlobals "_law_branched" = some (some (.ref f18)))
    (l18 : K.lookup f18 = some ⟨oc18, od18, .func (PySem.W.fnOf "_law_branched" "_law_branched" (defArgs s_law_branched) (defBody s_law_branched) (defScope s_law_branched) .none kV18 dc18 pm18 an18 cd18 ct18), sl18⟩)
    (c18 : PySem.W.codeIn K cd18 "_law_branched" = true)
    (k18 : PySem.W.keepIn K (.ref f18) = true)
    (a19 : PySem.W.nsIn K mainGlobals "_law_bushy" = some (some (.ref f19)))
    (l19 : K.lookup f19 = some ⟨oc19, od19, .func (PySem.W.fnOf "_law_bushy" "_law_bushy" (defArgs s_law_bushy) (defBody s_law_bushy) (defScope s_law_bushy) .none kV19 dc19 pm19 an19 cd19 ct19), sl19⟩)
    (c19 : PySem.W.codeIn K cd19 "_law_bushy" = true)
    (k19 : PySem.W.keepIn K (.ref f19) = true)
    (a20 : PySem.W.nsIn K mainGlobals "_law_some" = some (some (.ref f20)))
    (l20 : K.lookup f20 = some ⟨oc20, od20, .func (PySem.W.fnOf "_law_some" "_law_some" (defArgs s_law_some) (defBody s_law_some) (defScope s_law_some) .none kV20 dc20 pm20 an20 cd20 ct20), sl20⟩)
    (c20 : PySem.W.codeIn K cd20 "_law_some" = true)
    (k20 : PySem.W.keepIn K (.ref f20) = true)
    (a21 : PySem.W.nsIn K mainGlobals "_law_sum" = some (some (.ref f21)))
    (l21 : K.lookup f21 = some ⟨oc21, od21, .func (PySem.W.fnOf "_law_sum" "_law_sum" (defArgs s_law_sum) (defBody s_law_sum) (defScope s_law_sum) .none kV21 dc21 pm21 an21 cd21 ct21), sl21⟩)
    (c21 : PySem.W.codeIn K cd21 "_law_sum" = true)
    (k21 : PySem.W.keepIn K (.ref f21) = true)
    (a22 : PySem.W.nsIn K mainGlobals "_law_fitting" = some (some (.ref f22)))
    (l22 : K.lookup f22 = some ⟨oc22, od22, .func (PySem.W.fnOf "_law_fitting" "_law_fitting" (defArgs s_law_fitting) (defBody s_law_fitting) (defScope s_law_fitting) .none kV22 dc22 pm22 an22 cd22 ct22), sl22⟩)
    (c22 : PySem.W.codeIn K cd22 "_law_fitting" = true)
    (k22 : PySem.W.keepIn K (.ref f22) = true)
    (a23 : PySem.W.nsIn K mainGlobals "_law_front" = some (some (.ref f23)))
    (l23 : K.lookup f23 = some ⟨oc23, od23, .func (PySem.W.fnOf "_law_front" "_law_front" (defArgs s_law_front) (defBody s_law_front) (defScope s_law_front) .none kV23 dc23 pm23 an23 cd23 ct23), sl23⟩)
    (c23 : PySem.W.codeIn K cd23 "_law_front" = true)
    (k23 : PySem.W.keepIn K (.ref f23) = true)
    (a24 : PySem.W.nsIn K mainGlobals "_law_same_row" = some (some (.ref f24)))
    (l24 : K.lookup f24 = some ⟨oc24, od24, .func (PySem.W.fnOf "_law_same_row" "_law_same_row" (defArgs s_law_same_row) (defBody s_law_same_row) (defScope s_law_same_row) .none kV24 dc24 pm24 an24 cd24 ct24), sl24⟩)
    (c24 : PySem.W.codeIn K cd24 "_law_same_row" = true)
    (k24 : PySem.W.keepIn K (.ref f24) = true)
    (a25 : PySem.W.nsIn K mainGlobals "_law_same_rows" = some (some (.ref f25)))
    (l25 : K.lookup f25 = some ⟨oc25, od25, .func (PySem.W.fnOf "_law_same_rows" "_law_same_rows" (defArgs s_law_same_rows) (defBody s_law_same_rows) (defScope s_law_same_rows) .none kV25 dc25 pm25 an25 cd25 ct25), sl25⟩)
    (c25 : PySem.W.codeIn K cd25 "_law_same_rows" = true)
    (k25 : PySem.W.keepIn K (.ref f25) = true)
    (a26 : PySem.W.nsIn K mainGlobals "_law_is_front" = some (some (.ref f26)))
    (l26 : K.lookup f26 = some ⟨oc26, od26, .func (PySem.W.fnOf "_law_is_front" "_law_is_front" (defArgs s_law_is_front) (defBody s_law_is_front) (defScope s_law_is_front) .none kV26 dc26 pm26 an26 cd26 ct26), sl26⟩)
    (c26 : PySem.W.codeIn K cd26 "_law_is_front" = true)
    (k26 : PySem.W.keepIn K (.ref f26) = true)
    (a27 : PySem.W.nsIn K mainGlobals "_law_asked" = some (some (.ref f27)))
    (l27 : K.lookup f27 = some ⟨oc27, od27, .func (PySem.W.fnOf "_law_asked" "_law_asked" (defArgs s_law_asked) (defBody s_law_asked) (defScope s_law_asked) .none kV27 dc27 pm27 an27 cd27 ct27), sl27⟩)
    (c27 : PySem.W.codeIn K cd27 "_law_asked" = true)
    (k27 : PySem.W.keepIn K (.ref f27) = true)
    (a28 : PySem.W.nsIn K mainGlobals "law" = some (some (.ref f28)))
    (l28 : K.lookup f28 = some ⟨oc28, od28, .func (PySem.W.fnOf "law" "law" (defArgs s_law) (defBody s_law) (defScope s_law) .none kV28 dc28 pm28 an28 cd28 ct28), sl28⟩)
    (c28 : PySem.W.codeIn K cd28 "law" = true)
    (k28 : PySem.W.keepIn K (.ref f28) = true)
    (g_Book : PySem.W.nsIn K mainGlobals "Book" = some (some (.ref C_Book)))
    (p1_Book : PySem.W.plainGet K C_Book Str.empty = true)
    (p2_Book : PySem.W.hasDictIn K C_Book = true)
    (p3_Book : PySem.W.plainOver K C_Book = true)
    (p4_Book : PySem.W.findIn K (.ref C_Book) "__setattr__" = some (some (.builtin "object.__setattr__")))
    (p5_Book : PySem.W.findIn K (.ref C_Book) "__class__" = some (some (.builtin "object.__class__")))
    (p6_Book : PySem.W.specialIn K (.builtin "object.__class__") "__get__" = some (some (.builtin "getset_descriptor.__get__")))
    (p7_Book : PySem.W.takesIn K (.builtin "object.__class__") = some true)
    (p8_Book : PySem.W.mroIn K C_Book (.type "object") = some true)
    (p9_Book : PySem.W.selfFirst K C_Book = true)
    (q1_Book : PySem.W.makesIn K C_Book = true)
    (q2_Book : PySem.W.keepIn K (.ref C_Book) = true)
    (na_Book_kinds : PySem.W.findIn K (.ref C_Book) "kinds" = some none)
    (z_bool : PySem.W.nsIn K mainGlobals "bool" = some none)
    (z_int : PySem.W.nsIn K mainGlobals "int" = some none)
    (z_isinstance : PySem.W.nsIn K mainGlobals "isinstance" = some none)
    (z_len : PySem.W.nsIn K mainGlobals "len" = some none)
    (z_list : PySem.W.nsIn K mainGlobals "list" = some none)
    (z_max : PySem.W.nsIn K mainGlobals "max" = some none)
    (z_min : PySem.W.nsIn K mainGlobals "min" = some none)
    (z_range : PySem.W.nsIn K mainGlobals "range" = some none)
    (z_sum : PySem.W.nsIn K mainGlobals "sum" = some none)
    (z_tuple : PySem.W.nsIn K mainGlobals "tuple" = some none)
    : ∃ fd : FuncData, (∀ (s : Shared) (v : Value), BindsTo s fd ⟨[v], []⟩ [("script", v)]) ∧ ∀ base : Heap, K.In base → base.Ns mainGlobals mg → FnOk l.prog w K mg base CX0 8 fa fd ["script"] (spLaw K) := by
  have e := hfa.symm.trans (PySem.W.mg_of X G a28)
  cases e
  have F0 := fun_mk (st := s_frozen) l0 c0 k0
  have b0 := F0.binds (ps := ["value"]) fun _ _ _ _ _ _ us hl => match us, hl with | [_], _ => rfl
  have F1 := fun_mk (st := s_is_whole) l1 c1 k1
  have b1 := F1.binds (ps := ["value"]) fun _ _ _ _ _ _ us hl => match us, hl with | [_], _ => rfl
  have F2 := fun_mk (st := s_continued) l2 c2 k2
  have b2 := F2.binds (ps := ["kinds", "places"]) fun _ _ _ _ _ _ us hl => match us, hl with | [_, _], _ => rfl
  have F3 : FunD K "front" "front" (defArgs s_front) (defBody s_front) (defScope s_front) [] [("start", V.int 0)] f3 (PySem.W.fnOf "front" "front" (defArgs s_front) (defBody s_front) (defScope s_front) .none (.ref kD3) dc3 pm3 an3 cd3 ct3) := ⟨⟨_, _, .none, .ref kD3, _, _, _, _, _, _, rfl, l3, c3, .inl ⟨rfl, rfl⟩, .inr ⟨kD3, rfl, fun r hr => by
    rcases List.mem_cons.mp hr with rfl | hr
    · exact ⟨_, w3_0, ⟨_, rfl⟩⟩
    · cases hr⟩⟩, k3⟩
  obtain ⟨ds3, v3, b3⟩ := F3.binds0 (ps := ["book", "depth", "start"]) 2 (by simp) rfl fun D doc pm an cdv ct us ks h1 h2 => by
    match us, h1, ks, h2 with
    | [u0, u1], _, [x0], _ => exact ⟨_, _, _, _, _, _, rfl, rfl, rfl⟩
  have kb3 : KBn K (PySem.W.fnOf "front" "front" (defArgs s_front) (defBody s_front) (defScope s_front) .none (.ref kD3) dc3 pm3 an3 cd3 ct3) ["book", "depth", "start"] 2 ["start"] (fun us ws => us ++ ws) (fun us ws => us ++ ws) := ⟨fun s us ws _ h1 h2 => match us, h1, ws, h2 with | [_, _], _, [_], _ => .of_eq rfl, fun r1 r2 => r1.append r2⟩
  have F4 := fun_mk (st := s_next_counts) l4 c4 k4
  have b4 := F4.binds (ps := ["kinds", "counts"]) fun _ _ _ _ _ _ us hl => match us, hl with | [_, _], _ => rfl
  have F5 : FunD K "count_front" "count_front" (defArgs s_count_front) (defBody s_count_front) (defScope s_count_front) [] [("start", V.int 0)] f5 (PySem.W.fnOf "count_front" "count_front" (defArgs s_count_front) (defBody s_count_front) (defScope s_count_front) .none (.ref kD5) dc5 pm5 an5 cd5 ct5) := ⟨⟨_, _, .none, .ref kD5, _, _, _, _, _, _, rfl, l5, c5, .inl ⟨rfl, rfl⟩, .inr ⟨kD5, rfl, fun r hr => by
    rcases List.mem_cons.mp hr with rfl | hr
    · exact ⟨_, w5_0, ⟨_, rfl⟩⟩
    · cases hr⟩⟩, k5⟩
  obtain ⟨ds5, v5, b5⟩ := F5.binds0 (ps := ["book", "depth", "start"]) 2 (by simp) rfl fun D doc pm an cdv ct us ks h1 h2 => by
    match us, h1, ks, h2 with
    | [u0, u1], _, [x0], _ => exact ⟨_, _, _, _, _, _, rfl, rfl, rfl⟩
  have kb5 : KBn K (PySem.W.fnOf "count_front" "count_front" (defArgs s_count_front) (defBody s_count_front) (defScope s_count_front) .none (.ref kD5) dc5 pm5 an5 cd5 ct5) ["book", "depth", "start"] 2 ["start"] (fun us ws => us ++ ws) (fun us ws => us ++ ws) := ⟨fun s us ws _ h1 h2 => match us, h1, ws, h2 with | [_, _], _, [_], _ => .of_eq rfl, fun r1 r2 => r1.append r2⟩
  have F6 := fun_mk (st := s_is_target) l6 c6 k6
  have b6 := F6.binds (ps := ["value", "many"]) fun _ _ _ _ _ _ us hl => match us, hl with | [_, _], _ => rfl
  have F7 := fun_mk (st := s_moved_kinds) l7 c7 k7
  have b7 := F7.binds (ps := ["kinds", "amount"]) fun _ _ _ _ _ _ us hl => match us, hl with | [_, _], _ => rfl
  have F8 := fun_mk (st := s_Book_init) l8 c8 k8
  have b8 := F8.binds (ps := ["self", "kinds"]) fun _ _ _ _ _ _ us hl => match us, hl with | [_, _], _ => rfl
  have F9 := fun_mk (st := s_Book_add) l9 c9 k9
  have b9 := F9.binds (ps := ["self", "other"]) fun _ _ _ _ _ _ us hl => match us, hl with | [_, _], _ => rfl
  have F10 := fun_mk (st := s_law_whole) l10 c10 k10
  have b10 := F10.binds (ps := ["value"]) fun _ _ _ _ _ _ us hl => match us, hl with | [_], _ => rfl
  have F11 := fun_mk (st := s_law_cell) l11 c11 k11
  have b11 := F11.binds (ps := ["script", "k"]) fun _ _ _ _ _ _ us hl => match us, hl with | [_, _], _ => rfl
  have F12 := fun_mk (st := s_law_digits) l12 c12 k12
  have b12 := F12.binds (ps := ["cell", "sizes"]) fun _ _ _ _ _ _ us hl => match us, hl with | [_, _], _ => rfl
  have F13 := fun_mk (st := s_law_book_sizes) l13 c13 k13
  have b13 := F13.binds (ps := ["n", "e"]) fun _ _ _ _ _ _ us hl => match us, hl with | [_, _], _ => rfl
  have F14 := fun_mk (st := s_law_target) l14 c14 k14
  have b14 := F14.binds (ps := ["digit", "k", "many", "j"]) fun _ _ _ _ _ _ us hl => match us, hl with | [_, _, _, _], _ => rfl
  have F15 := fun_mk (st := s_law_book) l15 c15 k15
  have b15 := F15.binds (ps := ["row", "n", "e"]) fun _ _ _ _ _ _ us hl => match us, hl with | [_, _, _], _ => rfl
  have F16 := fun_mk (st := s_law_row_sizes) l16 c16 k16
  have b16 := F16.binds (ps := []) fun _ _ _ _ _ _ us hl => match us, hl with | [], _ => rfl
  have F17 := fun_mk (st := s_law_row) l17 c17 k17
  have b17 := F17.binds (ps := ["row"]) fun _ _ _ _ _ _ us hl => match us, hl with | [_], _ => rfl
  have F18 := fun_mk (st := s_law_branched) l18 c18 k18
  have b18 := F18.binds (ps := ["kinds", "row", "count"]) fun _ _ _ _ _ _ us hl => match us, hl with | [_, _, _], _ => rfl
  have F19 := fun_mk (st := s_law_bushy) l19 c19 k19
  have b19 := F19.binds (ps := ["row"]) fun _ _ _ _ _ _ us hl => match us, hl with | [_], _ => rfl
  have F20 := fun_mk (st := s_law_some) l20 c20 k20
  have b20 := F20.binds (ps := ["sort", "cell", "more"]) fun _ _ _ _ _ _ us hl => match us, hl with | [_, _, _], _ => rfl
  have F21 := fun_mk (st := s_law_sum) l21 c21 k21
  have b21 := F21.binds (ps := ["left", "right"]) fun _ _ _ _ _ _ us hl => match us, hl with | [_, _], _ => rfl
  have F22 := fun_mk (st := s_law_fitting) l22 c22 k22
  have b22 := F22.binds (ps := ["kinds", "first", "deep", "limit"]) fun _ _ _ _ _ _ us hl => match us, hl with | [_, _, _, _], _ => rfl
  have F23 := fun_mk (st := s_law_front) l23 c23 k23
  have b23 := F23.binds (ps := ["kinds", "first", "deep"]) fun _ _ _ _ _ _ us hl => match us, hl with | [_, _, _], _ => rfl
  have F24 := fun_mk (st := s_law_same_row) l24 c24 k24
  have b24 := F24.binds (ps := ["told", "due"]) fun _ _ _ _ _ _ us hl => match us, hl with | [_, _], _ => rfl
  have F25 := fun_mk (st := s_law_same_rows) l25 c25 k25
  have b25 := F25.binds (ps := ["told", "due"]) fun _ _ _ _ _ _ us hl => match us, hl with | [_, _], _ => rfl
  have F26 := fun_mk (st := s_law_is_front) l26 c26 k26
  have b26 := F26.binds (ps := ["book", "kinds", "first", "deep", "named"]) fun _ _ _ _ _ _ us hl => match us, hl with | [_, _, _, _, _], _ => rfl
  have F27 := fun_mk (st := s_law_asked) l27 c27 k27
  have b27 := F27.binds (ps := ["kinds", "row", "limit", "count"]) fun _ _ _ _ _ _ us hl => match us, hl with | [_, _, _, _], _ => rfl
  have F28 := fun_mk (st := s_law) l28 c28 k28
  have b28 := F28.binds (ps := ["script"]) fun _ _ _ _ _ _ us hl => match us, hl with | [_], _ => rfl
  rw [hP]
  refine ⟨_, fun s v => .of_eq rfl, fun base _ _ => law_imp law_true (ok_law (K := K) (mg := mg) { f_frozen := f0, fd_frozen := _, F_frozen := F0, b_frozen := b0, g_frozen := PySem.W.mg_of X G a0, f_is_whole := f1, fd_is_whole := _, F_is_whole := F1, b_is_whole := b1, g_is_whole := PySem.W.mg_of X G a1, f_continued := f2, fd_continued := _, F_continued := F2, b_continued := b2, g_continued := PySem.W.mg_of X G a2, f_front := f3, fd_front := _, F_front := F3, ds_front := ds3, v_front := v3, b_front := b3, kb_front := kb3, g_front := PySem.W.mg_of X G a3, f_next_counts := f4, fd_next_counts := _, F_next_counts := F4, b_next_counts := b4, g_next_counts := PySem.W.mg_of X G a4, f_count_front := f5, fd_count_front := _, F_count_front := F5, ds_count_front := ds5, v_count_front := v5, b_count_front := b5, kb_count_front := kb5, g_count_front := PySem.W.mg_of X G a5, f_is_target := f6, fd_is_target := _, F_is_target := F6, b_is_target := b6, g_is_target := PySem.W.mg_of X G a6, f_moved_kinds := f7, fd_moved_kinds := _, F_moved_kinds := F7, b_moved_kinds := b7, g_moved_kinds := PySem.W.mg_of X G a7, f_Book_init := f8, fd_Book_init := _, F_Book_init := F8, b_Book_init := b8, f_Book_add := f9, fd_Book_add := _, F_Book_add := F9, b_Book_add := b9, f_law_whole := f10, fd_law_whole := _, F_law_whole := F10, b_law_whole := b10, g_law_whole := PySem.W.mg_of X G a10, f_law_cell := f11, fd_law_cell := _, F_law_cell := F11, b_law_cell := b11, g_law_cell := PySem.W.mg_of X G a11, f_law_digits := f12, fd_law_digits := _, F_law_digits := F12, b_law_digits := b12, g_law_digits := PySem.W.mg_of X G a12, f_law_book_sizes := f13, fd_law_book_sizes := _, F_law_book_sizes := F13, b_law_book_sizes := b13, g_law_book_sizes := PySem.W.mg_of X G a13, f_law_target := f14, fd_law_target := _, F_law_target := F14, b_law_target := b14, g_law_target := PySem.W.mg_of X G a14, f_law_book := f15, fd_law_book := _, F_law_book := F15, b_law_book := b15, g_law_book := PySem.W.mg_of X G a15, f_law_row_sizes := f16, fd_law_row_sizes := _, F_law_row_sizes := F16, b_law_row_sizes := b16, g_law_row_sizes := PySem.W.mg_of X G a16, f_law_row := f17, fd_law_row := _, F_law_row := F17, b_law_row := b17, g_law_row := PySem.W.mg_of X G a17, f_law_branched := f18, fd_law_branched := _, F_law_branched := F18, b_law_branched := b18, g_law_branched := PySem.W.mg_of X G a18, f_law_bushy := f19, fd_law_bushy := _, F_law_bushy := F19, b_law_bushy := b19, g_law_bushy := PySem.W.mg_of X G a19, f_law_some := f20, fd_law_some := _, F_law_some := F20, b_law_some := b20, g_law_some := PySem.W.mg_of X G a20, f_law_sum := f21, fd_law_sum := _, F_law_sum := F21, b_law_sum := b21, g_law_sum := PySem.W.mg_of X G a21, f_law_fitting := f22, fd_law_fitting := _, F_law_fitting := F22, b_law_fitting := b22, g_law_fitting := PySem.W.mg_of X G a22, f_law_front := f23, fd_law_front := _, F_law_front := F23, b_law_front := b23, g_law_front := PySem.W.mg_of X G a23, f_law_same_row := f24, fd_law_same_row := _, F_law_same_row := F24, b_law_same_row := b24, g_law_same_row := PySem.W.mg_of X G a24, f_law_same_rows := f25, fd_law_same_rows := _, F_law_same_rows := F25, b_law_same_rows := b25, g_law_same_rows := PySem.W.mg_of X G a25, f_law_is_front := f26, fd_law_is_front := _, F_law_is_front := F26, b_law_is_front := b26, g_law_is_front := PySem.W.mg_of X G a26, f_law_asked := f27, fd_law_asked := _, F_law_asked := F27, b_law_asked := b27, g_law_asked := PySem.W.mg_of X G a27, f_law := fa, fd_law := _, F_law := F28, b_law := b28, g_law := PySem.W.mg_of X G a28, c_Book := C_Book, g_Book := PySem.W.mg_of X G g_Book, cl_Book := ⟨p1_Book, p2_Book, p3_Book, p4_Book⟩, ci_Book := ⟨⟨p1_Book, p2_Book, p3_Book, p4_Book⟩, p5_Book, p6_Book, p7_Book, p8_Book⟩, sf_Book := p9_Book, M_Book := ⟨q1_Book, a8, i8, q2_Book⟩, s_Book_add := a9, i_Book_add := i9, na_Book_kinds := na_Book_kinds, z_bool := PySem.W.mg_none_of X G z_bool, z_int := PySem.W.mg_none_of X G z_int, z_isinstance := PySem.W.mg_none_of X G z_isinstance, z_len := PySem.W.mg_none_of X G z_len, z_list := PySem.W.mg_none_of X G z_list, z_max := PySem.W.mg_none_of X G z_max, z_min := PySem.W.mg_none_of X G z_min, z_range := PySem.W.mg_none_of X G z_range, z_sum := PySem.W.mg_none_of X G z_sum, z_tuple := PySem.W.mg_none_of X G z_tuple })⟩
end DL
open PySem PySem.W PyProof.Rows in
set_option maxRecDepth 100000 in
set_option maxHeartbeats 0 in
theorem PySem.Challenge.cw_endsalike_k00_fronts_to_twelve_holds : PySem.Challenge.rw_endsalike_k00_fronts_to_twelve.Holds := by
  w_on; o_law; k_head; (case hw => w_witness2)
  k_fill
  refine DL.walk 8 (l := PySem.Challenge.rw_endsalike_k00_fronts_to_twelve) rfl rfl ⟨rfl, by decide, by decide⟩ (fun w h Y => PySem.W.kIn_of Y) ?F
  case F =>
    intro w mg fa h KX G hmg
    refine' DL.all_mk rfl KX G hmg ?a0 ?l0 ?c0 ?k0 ?a1 ?l1 ?c1 ?k1 ?a2 ?l2 ?c2 ?k2 ?a3 ?l3 ?c3 ?k3 ?w3_0 ?a4 ?l4 ?c4 ?k4 ?a5 ?l5 ?c5 ?k5 ?w5_0 ?a6 ?l6 ?c6 ?k6 ?a7 ?l7 ?c7 ?k7 ?a8 ?i8 ?l8 ?c8 ?k8 ?a9 ?i9 ?l9 ?c9 ?k9 ?a10 ?l10 ?c10 ?k10 ?a11 ?l11 ?c11 ?k11 ?a12 ?l12 ?c12 ?k12 ?a13 ?l13 ?c13 ?k13 ?a14 ?l14 ?c14 ?k14 ?a15 ?l15 ?c15 ?k15 ?a16 ?l16 ?c16 ?k16 ?a17 ?l17 ?c17 ?k17 ?a18 ?l18 ?c18 ?k18 ?a19 ?l19 ?c19 ?k19 ?a20 ?l20 ?c20 ?k20 ?a21 ?l21 ?c21 ?k21 ?a22 ?l22 ?c22 ?k22 ?a23 ?l23 ?c23 ?k23 ?a24 ?l24 ?c24 ?k24 ?a25 ?l25 ?c25 ?k25 ?a26 ?l26 ?c26 ?k26 ?a27 ?l27 ?c27 ?k27 ?a28 ?l28 ?c28 ?k28 ?g_Book ?p1_Book ?p2_Book ?p3_Book ?p4_Book ?p5_Book ?p6_Book ?p7_Book ?p8_Book ?p9_Book ?q1_Book ?q2_Book ?na_Book_kinds ?z_bool ?z_int ?z_isinstance ?z_len ?z_list ?z_max ?z_min ?z_range ?z_sum ?z_tuple
    (case g_Book => k_is)
    (case a0 => k_is)
    (case l0 => k_is)
    (case c0 => k_is)
    (case k0 => k_is)
    (case a1 => k_is)
    (case l1 => k_is)
    (case c1 => k_is)
    (case k1 => k_is)
    (case a2 => k_is)
    (case l2 => k_is)
    (case c2 => k_is)
    (case k2 => k_is)
    (case a3 => k_is)
    (case l3 => k_is)
    (case c3 => k_is)
    (case k3 => k_is)
    (case w3_0 => k_is)
    (case a4 => k_is)
    (case l4 => k_is)
    (case c4 => k_is)
    (case k4 => k_is)
    (case a5 => k_is)
    (case l5 => k_is)
    (case c5 => k_is)
    (case k5 => k_is)
    (case w5_0 => k_is)
    (case a6 => k_is)
    (case l6 => k_is)
    (case c6 => k_is)
    (case k6 => k_is)
    (case a7 => k_is)
    (case l7 => k_is)
    (case c7 => k_is)
    (case k7 => k_is)
    (case a8 => k_is)
    (case i8 => k_is)
    (case l8 => k_is)
    (case c8 => k_is)
    (case k8 => k_is)
    (case a9 => k_is)
    (case i9 => k_is)
    (case l9 => k_is)
    (case c9 => k_is)
    (case k9 => k_is)
    (case a10 => k_is)
    (case l10 => k_is)
    (case c10 => k_is)
    (case k10 => k_is)
    (case a11 => k_is)
    (case l11 => k_is)
    (case c11 => k_is)
    (case k11 => k_is)
    (case a12 => k_is)
    (case l12 => k_is)
    (case c12 => k_is)
    (case k12 => k_is)
    (case a13 => k_is)
    (case l13 => k_is)
    (case c13 => k_is)
    (case k13 => k_is)
    (case a14 => k_is)
    (case l14 => k_is)
    (case c14 => k_is)
    (case k14 => k_is)
    (case a15 => k_is)
    (case l15 => k_is)
    (case c15 => k_is)
    (case k15 => k_is)
    (case a16 => k_is)
    (case l16 => k_is)
    (case c16 => k_is)
    (case k16 => k_is)
    (case a17 => k_is)
    (case l17 => k_is)
    (case c17 => k_is)
    (case k17 => k_is)
    (case a18 => k_is)
    (case l18 => k_is)
    (case c18 => k_is)
    (case k18 => k_is)
    (case a19 => k_is)
    (case l19 => k_is)
    (case c19 => k_is)
    (case k19 => k_is)
    (case a20 => k_is)
    (case l20 => k_is)
    (case c20 => k_is)
    (case k20 => k_is)
    (case a21 => k_is)
    (case l21 => k_is)
    (case c21 => k_is)
    (case k21 => k_is)
    (case a22 => k_is)
    (case l22 => k_is)
    (case c22 => k_is)
    (case k22 => k_is)
    (case a23 => k_is)
    (case l23 => k_is)
    (case c23 => k_is)
    (case k23 => k_is)
    (case a24 => k_is)
    (case l24 => k_is)
    (case c24 => k_is)
    (case k24 => k_is)
    (case a25 => k_is)
    (case l25 => k_is)
    (case c25 => k_is)
    (case k25 => k_is)
    (case a26 => k_is)
    (case l26 => k_is)
    (case c26 => k_is)
    (case k26 => k_is)
    (case a27 => k_is)
    (case l27 => k_is)
    (case c27 => k_is)
    (case k27 => k_is)
    (case a28 => k_is)
    (case l28 => k_is)
    (case c28 => k_is)
    (case k28 => k_is)
    (case p1_Book => k_is)
    (case p2_Book => k_is)
    (case p3_Book => k_is)
    (case p4_Book => k_is)
    (case p5_Book => k_is)
    (case p6_Book => k_is)
    (case p7_Book => k_is)
    (case p8_Book => k_is)
    (case p9_Book => k_is)
    (case q1_Book => k_is)
    (case q2_Book => k_is)
    (case na_Book_kinds => k_is)
    (case z_bool => k_is)
    (case z_int => k_is)
    (case z_isinstance => k_is)
    (case z_len => k_is)
    (case z_list => k_is)
    (case z_max => k_is)
    (case z_min => k_is)
    (case z_range => k_is)
    (case z_sum => k_is)
    (case z_tuple => k_is)
