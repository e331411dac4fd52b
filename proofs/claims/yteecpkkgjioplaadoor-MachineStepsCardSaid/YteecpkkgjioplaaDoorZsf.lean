/- Texts of the proof, part 6 of 7. -/
import Derived.Test.YteecpkkgjioplaaDoorZse

/- Operations on abstract values: append, proved. -/
namespace Go.Proofs.YteecpkkgjioplaaDoor
open Go

section
variable {P : Program} {B : Base} {ρ : Env}

theorem appendTo_ok {ts : Array TypeId} {ty t t' e : TypeId} {d : TypeDesc} {j : TypeInfo} {z : Value} {s0 x : SV} {v u : Value}
    (h0 : ts[0]? = some t) (h1 : ts[1]? = some t') (hu : P.underlying t = some (.slice e)) (hu' : P.underlying t' = some d) (hd : notInt d = true) (hj : P.info? e = some j) (hz : j.zero = some z)
    (hsz : 0 < j.size) (hzs : z.cells.size = j.size) (hstr : strOk j.size x = true) (hv : s0.val ρ = some v) (hx : x.val ρ = some u) :
    OpOk P B ρ (appendTo j s0 x) (Builtin.append_ ts ty #[v, u]) := by
  have h8 : (∃ l, x = .str l) → j.size = 1 := by
    rintro ⟨l, rfl⟩
    exact Nat.eq_of_beq_eq_true hstr
  intro s s' r w hf hs e
  cases s0 <;> simp only [appendTo, MM.run, reduceCtorEq] at e
  case nils =>
    simp only [SV.val, Option.some.injEq] at hv; subst hv
    obtain ⟨n, xs, vs, s1, S, e1, e2, e3⟩ := src_ok (P := P) hx hs e h8
    cases hb : Nat.beq n 0 with
    | true =>
      simp only [hb, cond_true, MM.run, Option.some.injEq, Prod.mk.injEq] at e3
      obtain ⟨rfl, rfl⟩ := e3
      obtain rfl := Nat.eq_of_beq_eq_true hb
      have hv0 : vs = [] := List.length_eq_zero_iff.1 (by rw [S.one]; simp)
      subst hv0
      have hc := S.cells w rfl 0 (Nat.le_refl _)
      exact ⟨_, w, run_append_nil0 h0 h1 hu hu' hd hj S.len (by simpa using hc), ρ, Env.le.refl ρ, fun n hn => Or.inl hn, rfl, by rw [e2]; exact hs⟩
    | false =>
      simp only [hb, cond_false] at e3
      cases hk : okSize n j.bytes with
      | false => simp [hk, MM.run] at e3
      | true =>
        simp only [hk, cond_true, MM.run, Chunk.ro, cond_false, Option.some.injEq, Prod.mk.injEq] at e3
        obtain ⟨rfl, rfl⟩ := e3
        obtain ⟨k1, k2⟩ := okSize_ok hk
        have hn0 : n ≠ 0 := Nat.ne_of_beq_eq_false hb
        have hc := S.cells w.drew rfl n (Nat.le_refl _)
        rw [← S.one, List.take_length] at hc
        obtain ⟨c, hc1, hr⟩ := run_append_out (P := P) (ty := ty) (sLen := 0) (sCap := 0) (ba := none) (olds := []) h0 h1 hu hu' hd hj hz S.len hc (by simp [Builtin.firstCells]) (by omega) (by simpa using k1) (by omega)
        simp only [Nat.zero_add] at hc1 hr
        refine ⟨_, _, hr, ?_⟩
        rw [e1, e2] at *
        exact fresh_row (hf _ (Nat.le_refl _) (by simp)) hs S.vals S.one (by simp [zeroCells_size, hzs]) hc1 hsz
  case slc a esz off len cap =>
    simp only [SV.val, Option.map_eq_some_iff] at hv; obtain ⟨p, hp, rfl⟩ := hv
    cases cap with
    | some c =>
      simp only [MM.run] at e
      cases hc : s.hp.get a with
      | none => simp [hc] at e
      | some ch =>
        simp only [hc] at e
        obtain ⟨q, hq, ⟨o, ho, hob⟩, hM⟩ := hs.own a ch hc
        rw [hp] at hq
        obtain rfl := Option.some.inj hq
        cases ch <;> simp only [MM.run, reduceCtorEq] at e
        rename_i l shut ro
        obtain ⟨arr, ty', fz, rfl, hpsz, hfz, hlen, hshut, vl, hvl, hget⟩ := hob
        obtain ⟨n, xs, vs, s1, S, e1, e2, e3⟩ := src_ok (P := P) (B := B) (s := ⟨s.nm, s.hp, s.rd ||| 2 ^ a, s.wr⟩) hx hs e h8
        simp only at e1 e2
        have hll := SV.vals_len hvl
        have hxl := SV.vals_len S.vals
        cases hb : Nat.ble (len + n) c with
        | true =>
          have hle := Nat.le_of_ble_eq_true hb
          simp only [hb, cond_true] at e3
          cases hb2 : (Nat.beq esz j.size && (Nat.ble (off + len * esz + xs.length) l.length && xs.all SV.one)) with
          | false => simp [hb2, MM.run] at e3
          | true =>
            simp only [hb2, cond_true, MM.run, e2, hc] at e3
            simp only [Bool.and_eq_true] at hb2
            obtain ⟨k1, k2, k3⟩ := hb2
            have k1' := Nat.eq_of_beq_eq_true k1
            have k2' := Nat.le_of_ble_eq_true k2
            subst k1'
            cases hro : ro with
            | true => simp [hro, Chunk.ro] at e3
            | false =>
              subst hro
              simp only [Chunk.ro, Bool.or_false, cond_false, Option.some.injEq, Prod.mk.injEq] at e3
              obtain ⟨rfl, rfl⟩ := e3
              have hcc := S.cells w rfl n (Nat.le_refl _)
              rw [← S.one, List.take_length] at hcc
              obtain ⟨w', arr', f1, f2, f3, f4, f5⟩ := run_storeList (P := P) p.b (off + len * j.size) vs 0 arr ty' fz w ho (by omega) (hfz rfl) (SV.all_one k3 S.vals)
              refine ⟨.slice (some (p.addr off)) (len + n) c, w', ?_, ρ, Env.le.refl ρ, fun n hn => Or.inl hn, by simp [SV.val, hp], ?_⟩
              · have := run_append_in (P := P) (ty := ty) (a := p.addr off) (sCap := c) (sLen := len) h0 h1 hu hu' hd hj S.len hcc hle
                simp only [Option.getD_some]
                rw [this]
                simp only [Place.addr, add_eq, f1, Result.andThen_ok]
              · refine hs.change (c' := .cells (splice l (off + len * j.size) xs) shut false) hc rfl hp f5.size f5.tape f5.os f5.output f5.heap rfl ⟨_, f2, arr', ty', fz, rfl, by rw [f3]; exact hpsz, fun _ => by rw [f3]; exact hfz rfl, by rw [splice_len k2']; exact hlen, fun hsh => by rw [splice_len k2']; exact hshut hsh, _, splice_vals hvl S.vals, fun i y hy => ?_⟩
                rw [splice_get vl _ _ (by rw [hxl, hll]; exact k2')] at hy
                rw [f4]
                simp only [Nat.add_zero]
                split
                · rename_i hcond
                  rw [if_pos hcond] at hy
                  exact hy
                · rename_i hcond
                  rw [if_neg hcond] at hy
                  exact hget i y hy
        | false =>
          have hgt : c < len + n := by
            rcases Nat.lt_or_ge c (len + n) with h | h
            · exact h
            · rw [Nat.ble_eq_true_of_le h] at hb; cases hb
          simp only [hb, cond_false] at e3
          cases hb2 : (Nat.beq esz j.size && (Nat.ble (off + len * esz) l.length && okSize (len + n) j.bytes)) with
          | false => simp [hb2, MM.run] at e3
          | true =>
            simp only [hb2, cond_true, MM.run, Chunk.ro, cond_false, Option.some.injEq, Prod.mk.injEq] at e3
            obtain ⟨rfl, rfl⟩ := e3
            simp only [Bool.and_eq_true] at hb2
            obtain ⟨k1, k2, k3⟩ := hb2
            have k1' := Nat.eq_of_beq_eq_true k1
            have k2' := Nat.le_of_ble_eq_true k2
            subst k1'
            obtain ⟨m1, m2⟩ := okSize_ok k3
            have hcc := S.cells w.drew rfl n (Nat.le_refl _)
            rw [← S.one, List.take_length] at hcc
            have hol : ((vl.drop off).take (len * j.size)).length = len * j.size := by simp; omega
            have hold : (Builtin.firstCells j.size len (.slice (some (p.addr off)) len c)).run P w.drew = .ok ((vl.drop off).take (len * j.size)).toArray w.drew := by
              have := loadRow (P := P) (w := w.drew) (b := p.b) ho off ((vl.drop off).take (len * j.size)) (fun i y hi => by
                rw [List.getElem?_take] at hi
                split at hi
                · rw [List.getElem?_drop] at hi
                  exact hget _ _ hi
                · cases hi)
              rw [hol] at this
              simpa [Builtin.firstCells, Place.addr] using this
            obtain ⟨c', hc1, hr⟩ := run_append_out (P := P) (ty := ty) (sLen := len) (sCap := c) (ba := some (p.addr off)) h0 h1 hu hu' hd hj hz S.len hcc hold hgt m1 m2
            refine ⟨_, _, hr, ?_⟩
            rw [e1, e2]
            have hvv : SV.vals ρ ((l.drop off).take (len * j.size) ++ xs) = some ((vl.drop off).take (len * j.size) ++ vs) := SV.vals_append (SV.vals_take _ (SV.vals_drop _ hvl)) S.vals
            refine fresh_row (hf _ (Nat.le_refl _) (by simp [e1])) hs hvv ?_ (by simp [zeroCells_size, hzs]) hc1 hsz
            rw [List.length_append, hol, S.one, Nat.add_mul]
    | none =>
      cases off with
      | succ off => simp only [MM.run, reduceCtorEq] at e
      | zero =>
        simp only [MM.run] at e
        cases hc : s.hp.get a with
        | none => simp [hc] at e
        | some ch =>
          simp only [hc] at e
          obtain ⟨q, hq, ⟨o, ho, hob⟩, hM⟩ := hs.own a ch hc
          rw [hp] at hq
          obtain rfl := Option.some.inj hq
          cases ch <;> simp only [MM.run, reduceCtorEq] at e
          rename_i l shut ro
          obtain ⟨arr, ty', fz, rfl, hpsz, hfz, hlen, hshut, vl, hvl, hget⟩ := hob
          obtain ⟨n, xs, vs, s1, S, e1, e2, e3⟩ := src_ok (P := P) (B := B) (s := ⟨s.nm, s.hp, s.rd ||| 2 ^ a, s.wr⟩) hx hs e h8
          simp only at e1 e2
          have hll := SV.vals_len hvl
          have hxl := SV.vals_len S.vals
          cases hb2 : (Nat.beq esz j.size && (Nat.ble (len * esz) l.length && (xs.all SV.one && okSize (len + n) j.bytes))) with
          | false => simp [hb2, MM.run] at e3
          | true =>
            simp only [hb2, cond_true] at e3
            simp only [Bool.and_eq_true] at hb2
            obtain ⟨k1, k2, k3, k4⟩ := hb2
            have k1' := Nat.eq_of_beq_eq_true k1
            have k2' := Nat.le_of_ble_eq_true k2
            subst k1'
            obtain ⟨m1, m2⟩ := okSize_ok k4
            have hcap : (p.sz - 0) / j.size = p.sz / j.size := by rw [Nat.sub_zero]
            have hcl : len ≤ p.sz / j.size := by rw [Nat.le_div_iff_mul_le hsz]; omega
            simp only [Option.getD_none, hcap]
            cases hb : Nat.beq n 0 with
            | true =>
              simp only [hb, cond_true, MM.run, Option.some.injEq, Prod.mk.injEq] at e3
              obtain ⟨rfl, rfl⟩ := e3
              obtain rfl := Nat.eq_of_beq_eq_true hb
              have hv0 : vs = [] := List.length_eq_zero_iff.1 (by rw [S.one]; simp)
              subst hv0
              have hcc := S.cells w rfl 0 (Nat.le_refl _)
              have := run_append_in (P := P) (ty := ty) (a := p.addr 0) (sCap := p.sz / j.size) (sLen := len) (news := []) h0 h1 hu hu' hd hj S.len (by simpa using hcc) (by omega)
              refine ⟨_, w, by rw [this]; simp [storeCells]; rfl, ρ, Env.le.refl ρ, fun n hn => Or.inl hn, by simp [SV.val, hp], by rw [e2]; exact hs⟩
            | false =>
              simp only [hb, cond_false, MM.run, e2, hc, Chunk.ro] at e3
              cases hro : ro with
              | true => simp [hro] at e3
              | false =>
                subst hro
                simp only [cond_false, Option.some.injEq, Prod.mk.injEq] at e3
                obtain ⟨rfl, rfl⟩ := e3
                rw [e1] at hf ⊢
                have hnm : ρ s.nm = none := hf _ (Nat.le_refl _) (by simp)
                have hvv : SV.vals ρ (l.take (len * j.size) ++ xs) = some (vl.take (len * j.size) ++ vs) := SV.vals_append (SV.vals_take _ hvl) S.vals
                by_cases hroom : len + n ≤ p.sz / j.size
                · have hcc := S.cells w rfl n (Nat.le_refl _)
                  rw [← S.one, List.take_length] at hcc
                  have hfit : len * j.size + n * j.size ≤ p.sz := by
                    rw [← Nat.add_mul]
                    exact (Nat.le_div_iff_mul_le hsz).1 hroom
                  obtain ⟨w', arr', f1, f2, f3, f4, f5⟩ := run_storeList (P := P) p.b (0 + len * j.size) vs 0 arr ty' fz w ho (by rw [S.one]; omega) (hfz rfl) (SV.all_one k3 S.vals)
                  have hsc : Sim B ρ (s.hp.set a (some (.cells (l.take (len * j.size) ++ xs) false false))) w' := by
                    refine hs.change (c' := .cells (l.take (len * j.size) ++ xs) false false) hc rfl hp f5.size f5.tape f5.os f5.output f5.heap rfl ⟨_, f2, arr', ty', fz, rfl, by rw [f3]; exact hpsz, fun _ => by rw [f3]; exact hfz rfl, ?_, (fun h => by cases h), _, hvv, fun i y hy => ?_⟩
                    · rw [List.length_append, List.length_take, ← hxl, S.one]; omega
                    · rw [f4]
                      simp only [Nat.zero_add, Nat.add_zero]
                      by_cases hi : i < len * j.size
                      · rw [if_neg (by omega)]
                        rw [List.getElem?_append_left (by simp; omega), List.getElem?_take, if_pos hi] at hy
                        exact hget i y hy
                      · rw [List.getElem?_append_right (by simp; omega)] at hy
                        have hlt : (vl.take (len * j.size)).length = len * j.size := by simp; omega
                        rw [hlt] at hy
                        have : i - len * j.size < vs.length := (List.getElem?_eq_some_iff.1 hy).1
                        rw [if_pos (by omega)]
                        exact hy
                  have hren := hsc.rename (a := a) (m := s.nm) (c := .cells (l.take (len * j.size) ++ xs) false false) (by rw [Tr.get_set, if_pos rfl]) rfl hp hnm
                  refine ⟨.slice (some (p.addr 0)) (len + n) (p.sz / j.size), w', ?_, ρ.add s.nm p, Env.le_add hnm, fun k h => ?_, by simp [SV.val, Env.add_self, Place.addr], ?_⟩
                  · have := run_append_in (P := P) (ty := ty) (a := p.addr 0) (sCap := p.sz / j.size) (sLen := len) h0 h1 hu hu' hd hj S.len hcc hroom
                    rw [this]
                    simp only [Place.addr, add_eq, f1, Result.andThen_ok]
                  · by_cases e : k = s.nm
                    · exact Or.inr (by simp [e])
                    · exact Or.inl (by simpa [Env.add, e] using h)
                  · refine hren.congr fun k => ?_
                    rw [Tr.get_set, Tr.get_set, Tr.get_set, Tr.get_set, Tr.get_set]
                    split
                    · rfl
                    · split
                      · rfl
                      · rfl
                · have hcc := S.cells w.drew rfl n (Nat.le_refl _)
                  rw [← S.one, List.take_length] at hcc
                  have hol : (vl.take (len * j.size)).length = len * j.size := by simp; omega
                  have hold : (Builtin.firstCells j.size len (.slice (some (p.addr 0)) len (p.sz / j.size))).run P w.drew = .ok (vl.take (len * j.size)).toArray w.drew := by
                    have := loadRow (P := P) (w := w.drew) (b := p.b) ho 0 (vl.take (len * j.size)) (fun i y hi => by
                      rw [List.getElem?_take] at hi
                      split at hi
                      · rw [Nat.zero_add]; exact hget _ _ hi
                      · cases hi)
                    rw [hol] at this
                    simpa [Builtin.firstCells, Place.addr] using this
                  obtain ⟨c', hc1, hr⟩ := run_append_out (P := P) (ty := ty) (sLen := len) (sCap := p.sz / j.size) (ba := some (p.addr 0)) h0 h1 hu hu' hd hj hz S.len hcc hold (by omega) m1 m2
                  refine ⟨_, _, hr, ?_⟩
                  refine fresh_row hnm (hs.del a) hvv ?_ (by simp [zeroCells_size, hzs]) hc1 hsz
                  rw [List.length_append, hol, S.one, Nat.add_mul]

theorem append_ok {ts : Array TypeId} {ty : TypeId} {s0 x : SV} {v u : Value} (hv : s0.val ρ = some v) (hx : x.val ρ = some u) :
    OpOk P B ρ (appendM P ts s0 x) (Builtin.append_ ts ty #[v, u]) := by
  unfold appendM
  split
  · rename_i t t' h0 h1
    split
    · rename_i e d hu hu'
      cases hj : P.info? e with
      | none => exact OpOk.fails
      | some j =>
        cases hz : j.zero with
        | none => simp only [hz]; exact OpOk.fails
        | some z =>
          simp only [hz]
          cases hb : (notInt d && (Nat.blt 0 j.size && (Nat.beq z.cells.size j.size && strOk j.size x))) with
          | false => exact OpOk.fails
          | true =>
            simp only [Bool.and_eq_true, Nat.blt_eq] at hb
            exact appendTo_ok h0 h1 hu hu' hb.1 hj hz hb.2.1 (Nat.eq_of_beq_eq_true hb.2.2.1) hb.2.2.2 hv hx
    · exact OpOk.fails
  · exact OpOk.fails
end
end Go.Proofs.YteecpkkgjioplaaDoor

/- Operations on abstract values: copy, conversions, maps. -/
namespace Go.Proofs.YteecpkkgjioplaaDoor
open Go

section
variable {P : Program} {B : Base} {ρ : Env}

/-- COPY. -/
def copyM (P : Program) (ts : Array TypeId) (d x : SV) : MM SV :=
  match ts[0]? with
  | some t =>
    match P.underlying t with
    | some (.slice e) =>
      match P.info? e with
      | some j =>
        bif strOk j.size x then
          match d with
          | .nils => srcM j.size x fun _ _ => .ret (.int .i64 0)
          | .slz _ _ _ _ => srcM j.size x fun _ _ => .ret (.int .i64 0)
          | .slc a _ off len _ => .get a fun ch =>
            match ch with
            | .cells l shut ro => srcM j.size x fun n xs =>
              bif Nat.ble (off + (xs.take (min n len * j.size)).length) l.length && xs.all SV.one then
                .put a (.cells (splice l off (xs.take (min n len * j.size))) shut ro) (.ret (.int .i64 (min n len : Nat)))
              else .fail
            | _ => .fail
          | _ => .fail
        else .fail
      | none => .fail
    | _ => .fail
  | none => .fail
theorem copy_ok {ts : Array TypeId} {ty : TypeId} {d x : SV} {v u : Value} (hv : d.val ρ = some v) (hx : x.val ρ = some u) :
    OpOk P B ρ (copyM P ts d x) (Builtin.copy_ ts ty #[v, u]) := by
  unfold copyM
  split
  · rename_i t h0
    split
    · rename_i e hu
      cases hj : P.info? e with
      | none => exact OpOk.fails
      | some j =>
        simp only
        cases hstr : strOk j.size x with
        | false => exact OpOk.fails
        | true =>
          have h8 : (∃ l, x = .str l) → j.size = 1 := by
            rintro ⟨l, rfl⟩
            exact Nat.eq_of_beq_eq_true hstr
          simp only [cond_true]
          intro s s' r w hf hs e
          cases d <;> simp only [MM.run, reduceCtorEq] at e
          case nils =>
            simp only [SV.val, Option.some.injEq] at hv; subst hv
            obtain ⟨n, xs, vs, s1, S, e1, e2, e3⟩ := src_ok (P := P) hx hs e h8
            simp only [MM.run, Option.some.injEq, Prod.mk.injEq] at e3
            obtain ⟨rfl, rfl⟩ := e3
            have hc := S.cells w rfl 0 (Nat.zero_le _)
            refine ⟨_, w, ?_, ρ, Env.le.refl ρ, fun n hn => Or.inl hn, rfl, by rw [e2]; exact hs⟩
            simp only [Nat.zero_mul, List.take_zero] at hc
            simp [Builtin.copy_, h0, run_underlying hu, S.len, run_sizeOf' hj, hc, goInt]
          case slz n' esz off k =>
            simp only [SV.val, Option.map_eq_some_iff] at hv; obtain ⟨p, _, rfl⟩ := hv
            obtain ⟨n, xs, vs, s1, S, e1, e2, e3⟩ := src_ok (P := P) hx hs e h8
            simp only [MM.run, Option.some.injEq, Prod.mk.injEq] at e3
            obtain ⟨rfl, rfl⟩ := e3
            have hc := S.cells w rfl 0 (Nat.zero_le _)
            refine ⟨_, w, ?_, ρ, Env.le.refl ρ, fun n hn => Or.inl hn, rfl, by rw [e2]; exact hs⟩
            simp only [Nat.zero_mul, List.take_zero] at hc
            simp [Builtin.copy_, h0, run_underlying hu, S.len, run_sizeOf' hj, hc, goInt, storeCells]
          case slc a esz off len cap =>
            simp only [SV.val, Option.map_eq_some_iff] at hv; obtain ⟨p, hp, rfl⟩ := hv
            cases hc : s.hp.get a with
            | none => simp [hc] at e
            | some ch =>
              simp only [hc] at e
              obtain ⟨q, hq, ⟨o, ho, hob⟩, hM⟩ := hs.own a ch hc
              rw [hp] at hq
              obtain rfl := Option.some.inj hq
              cases ch <;> simp only [MM.run, reduceCtorEq] at e
              rename_i l shut ro
              obtain ⟨arr, ty', fz, rfl, hpsz, hfz, hlen, hshut, vl, hvl, hget⟩ := hob
              obtain ⟨n, xs, vs, s1, S, e1, e2, e3⟩ := src_ok (P := P) (B := B) (s := ⟨s.nm, s.hp, s.rd ||| 2 ^ a, s.wr⟩) hx hs e h8
              simp only at e1 e2
              have hll := SV.vals_len hvl
              cases hb2 : (Nat.ble (off + (xs.take (min n len * j.size)).length) l.length && xs.all SV.one) with
              | false => rw [hb2] at e3; simp [MM.run] at e3
              | true =>
                simp only [hb2, cond_true, MM.run, e2, hc] at e3
                simp only [Bool.and_eq_true] at hb2
                have k2 := Nat.le_of_ble_eq_true hb2.1
                cases hro : ro with
                | true => simp [hro, Chunk.ro] at e3
                | false =>
                  subst hro
                  simp only [Chunk.ro, Bool.or_false, cond_false, Option.some.injEq, Prod.mk.injEq] at e3
                  obtain ⟨rfl, rfl⟩ := e3
                  have hcc := S.cells w rfl (min n len) (Nat.min_le_left _ _)
                  have hvt := SV.vals_take (min n len * j.size) S.vals
                  have hxl := SV.vals_len hvt
                  have hone : ∀ y ∈ vs.take (min n len * j.size), y.oneCell' = true := fun y hy => SV.all_one hb2.2 S.vals y (List.mem_of_mem_take hy)
                  obtain ⟨w', arr', f1, f2, f3, f4, f5⟩ := run_storeList (P := P) p.b off (vs.take (min n len * j.size)) 0 arr ty' fz w ho (by omega) (hfz rfl) hone
                  refine ⟨goInt (min n len : Nat), w', ?_, ρ, Env.le.refl ρ, fun n hn => Or.inl hn, rfl, ?_⟩
                  · have hmin : Nat.min n len = min n len := rfl
                    simp [Builtin.copy_, h0, run_underlying hu, S.len, run_sizeOf' hj, hmin, hcc, Place.addr, f1]
                  · refine hs.change (c' := .cells (splice l off (xs.take (min n len * j.size))) shut false) hc rfl hp f5.size f5.tape f5.os f5.output f5.heap rfl ⟨_, f2, arr', ty', fz, rfl, by rw [f3]; exact hpsz, fun _ => by rw [f3]; exact hfz rfl, by rw [splice_len k2]; exact hlen, fun hsh => by rw [splice_len k2]; exact hshut hsh, _, splice_vals hvl hvt, fun i y hy => ?_⟩
                    rw [splice_get vl _ _ (by rw [hxl, hll]; exact k2)] at hy
                    rw [f4]
                    simp only [Nat.add_zero]
                    split
                    · rename_i hcond
                      rw [if_pos hcond] at hy
                      exact hy
                    · rename_i hcond
                      rw [if_neg hcond] at hy
                      exact hget i y hy
    · exact OpOk.fails
  · exact OpOk.fails

/-- Bytes out of cells. -/
def bytesS : List SV → Option (List Nat)
  | [] => some []
  | .int .u8 n :: l => (bytesS l).map (n.toNat :: ·)
  | _ => none
theorem bytesS_ok {g : Value → ByteArray → Sem (ForInStep ByteArray)} (hg : ∀ n s, g (.int .u8 n) s = pure (.yield (s.push (UInt8.ofNat n.toNat)))) :
    ∀ (l : List SV) (bs : List Nat) (vs : List Value) (acc : ByteArray) (w : World), bytesS l = some bs → SV.vals ρ l = some vs → (forIn vs acc g).run P w = .ok (acc ++ bytesOf bs) w
  | [], bs, vs, acc, w, h, hv => by
    simp only [bytesS, Option.some.injEq] at h
    simp only [SV.vals, Option.some.injEq] at hv
    subst h; subst hv
    have : acc ++ bytesOf [] = acc := by apply ByteArray.ext; simp [bytesOf]
    simp [this]
  | x :: l, bs, vs, acc, w, h, hv => by
    obtain ⟨u, us, hu, hus, rfl⟩ := SV.vals_cons hv
    obtain ⟨n, rfl⟩ : ∃ n, x = .int .u8 n := by
      unfold bytesS at h
      split at h
      · rename_i e; cases e
      · rename_i n l' e
        simp only [List.cons.injEq] at e
        exact ⟨n, e.1⟩
      · cases h
    simp only [bytesS, Option.map_eq_some_iff] at h
    obtain ⟨bs', hb, rfl⟩ := h
    simp only [SV.val, Option.some.injEq] at hu
    subst hu
    have ih := bytesS_ok hg l bs' us (acc.push (UInt8.ofNat n.toNat)) w hb hus
    have : acc.push (UInt8.ofNat n.toNat) ++ bytesOf bs' = acc ++ bytesOf (n.toNat :: bs') := by
      apply ByteArray.ext
      simp [bytesOf]
    rw [← this, ← ih]
    simp [hg]

def isU8 : Option TypeDesc → Bool
  | some (.int .u8) => true
  | _ => false
theorem isU8_ok {o : Option TypeDesc} (h : isU8 o = true) : o = some (.int .u8) := by
  unfold isU8 at h; split at h <;> simp_all
/-- CONVERT. -/
def convertM (P : Program) (src dst : TypeId) (x : SV) : MM SV :=
  match P.underlying src, P.underlying dst with
  | some _, some (.int k) => match x with | .int _ n => .ret (.int k (k.wrap n)) | _ => .fail
  | some _, some .string =>
    match x, P.underlying src with
    | .str l, _ => .ret (.str l)
    | .nils, some (.slice e) => (if isU8 (P.underlying e) = true then .ret (.str []) else .fail)
    | .slc n _ off len _, some (.slice e) =>
      (if isU8 (P.underlying e) = true then
        .get n fun c =>
          match c with
          | .cells l _ _ =>
            bif Nat.ble (off + len) l.length then
              match bytesS ((l.drop off).take len) with
              | some bs => .ret (.str bs)
              | none => .fail
            else .fail
          | _ => .fail
      else .fail)
    | _, _ => .fail
  | some _, some (.slice e) =>
    match x with
    | .str l => (if isU8 (P.underlying e) = true then .new (.cells (l.map fun b => .int .u8 ((b % 256 : Nat) : Int)) false false) fun m => .ret (.slc m 1 0 l.length none) else .fail)
    | _ => .fail
  | _, _ => .fail
theorem freeze_row {w : World} {b : Nat} {arr : Array Value} {ty : TypeId} (h : w.heap[b]? = some (.cells arr ty (0, 0))) : (w.freeze ⟨b, arr.size, none⟩ 1).heap[b]? = some (.cells arr ty (arr.size, arr.size + 1)) := by
  simp [World.freeze, Array.getElem?_modify, h]
theorem freeze_alloc (w : World) (A : Array Value) (e : TypeId) (k : Nat) : (w.alloc (.cells A e)).freeze ⟨w.heap.size, k, none⟩ 1 = w.alloc (.cells A e (k, k + 1)) := by
  simp only [World.freeze]
  rw [if_neg (by omega)]
  have hw : ∀ (W : World) (h : Array Obj), W.heap = h → ({ W with heap := h } : World) = W := fun W h e => by subst e; rfl
  refine (?_ : ({ (w.alloc (.cells A e (k, k + 1))) with heap := _ } : World) = _)
  apply hw
  apply Array.ext_getElem?
  intro i
  rw [Array.getElem?_modify]
  simp only [World.alloc, Array.getElem?_push]
  by_cases h : i = w.heap.size
  · subst h; simp
  · simp [h, Ne.symm h]
theorem convert_ok {src dst : TypeId} {x : SV} {v : Value} (hx : x.val ρ = some v) : OpOk P B ρ (convertM P src dst x) (convert src dst v) := by
  unfold convertM
  split
  · rename_i d k hs hd
    split
    · rename_i k' n
      simp only [SV.val, Option.some.injEq] at hx; subst hx
      exact OpOk.ret rfl fun w => by cases d <;> simp [convert, run_underlying hs, run_underlying hd, Conv.intToInt]
    · exact OpOk.fails
  · rename_i d hs hd
    split
    · rename_i l
      simp only [SV.val, Option.some.injEq] at hx; subst hx
      exact OpOk.ret rfl fun w => by cases d <;> simp [convert, run_underlying hs, run_underlying hd]
    · rename_i e he
      rw [hs] at he
      obtain rfl := Option.some.inj he
      split
      · rename_i hu
        have hu' := isU8_ok hu
        simp only [SV.val, Option.some.injEq] at hx; subst hx
        exact OpOk.ret (v := .string .empty) rfl fun w => by simp [convert, run_underlying hs, run_underlying hd, run_underlying hu', Conv.bytesToString]
      · exact OpOk.fails
    · rename_i n esz off len cap e he
      rw [hs] at he
      obtain rfl := Option.some.inj he
      split
      · rename_i hu
        have hu' := isU8_ok hu
        intro s s' r w hf hsim e'
        simp only [MM.run] at e'
        simp only [SV.val, Option.map_eq_some_iff] at hx; obtain ⟨p, hp, rfl⟩ := hx
        cases hc : s.hp.get n with
        | none => simp [hc] at e'
        | some ch =>
          simp only [hc] at e'
          obtain ⟨q, hq, ⟨o, ho, hob⟩, hM⟩ := hsim.own n ch hc
          rw [hp] at hq
          obtain rfl := Option.some.inj hq
          cases ch <;> simp only [MM.run, reduceCtorEq] at e'
          rename_i l shut ro
          obtain ⟨arr, ty', fz, rfl, hpsz, hfz, hlen, hshut, vl, hvl, hget⟩ := hob
          cases hb : Nat.ble (off + len) l.length with
          | false => simp [hb, MM.run] at e'
          | true =>
            have hb' := Nat.le_of_ble_eq_true hb
            simp only [hb, cond_true] at e'
            cases hbs : bytesS ((l.drop off).take len) with
            | none => simp [hbs, MM.run] at e'
            | some bs =>
              simp only [hbs, MM.run, Option.some.injEq, Prod.mk.injEq] at e'
              obtain ⟨rfl, rfl⟩ := e'
              have hvt := SV.vals_take len (SV.vals_drop off hvl)
              have hvl' := SV.vals_len hvl
              have hlt : ((vl.drop off).take len).length = len := by simp; omega
              have hload := loadRow (P := P) (w := w) (b := p.b) ho off ((vl.drop off).take len) (fun i y hi => by
                rw [List.getElem?_take] at hi
                split at hi
                · rw [List.getElem?_drop] at hi
                  exact hget _ _ hi
                · cases hi)
              rw [hlt] at hload
              have he0 : ByteArray.empty ++ bytesOf bs = bytesOf bs := by apply ByteArray.ext; simp
              refine ⟨_, w, ?_, ρ, Env.le.refl ρ, fun n hn => Or.inl hn, rfl, hsim⟩
              simp only [convert, Sem.run_bind, run_underlying hs, run_underlying hd, run_underlying hu', Result.andThen_ok, Conv.bytesToString, Place.addr, hload, Sem.run_pure]
              rw [← Array.forIn_toList, bytesS_ok (ρ := ρ) (fun n s => by rfl) _ _ _ .empty w hbs hvt, he0]
              rfl
      · exact OpOk.fails
    · exact OpOk.fails
  · rename_i d e hs hd
    split
    · rename_i l
      split
      · rename_i hu
        have hu' := isU8_ok hu
        simp only [SV.val, Option.some.injEq] at hx; subst hx
        intro s s' r w hf hsim e'
        simp only [MM.run, Chunk.ro, cond_false, Option.some.injEq, Prod.mk.injEq] at e'
        obtain ⟨rfl, rfl⟩ := e'
        obtain ⟨c, hc⟩ : ∃ c, c = (Question.appendCap (bytesOf l).size 0 e).cut (w.tape w.drawn (.appendCap (bytesOf l).size 0 e)) := ⟨_, rfl⟩
        have hge : l.length ≤ c := by rw [hc]; simp [Question.cut, bytesOf_size]
        have hn : ρ s.nm = none := hf _ (Nat.le_refl _) (by simp)
        have hvals : SV.vals ρ (l.map fun b => SV.int .u8 ((b % 256 : Nat) : Int)) = some (l.map fun b => Value.int .u8 ((b % 256 : Nat) : Int)) := by
          clear hge hc hf hsim
          induction l with
          | nil => rfl
          | cons b l ih => exact SV.vals_mk rfl ih
        have hA : (Array.map (fun b : UInt8 => Value.int IntKind.u8 b.toNat) (bytesOf l).data ++ Array.replicate (c - (bytesOf l).size) (Value.int IntKind.u8 0)) = ((l.map fun b => Value.int .u8 ((b % 256 : Nat) : Int)) ++ List.replicate (c - l.length) (Value.int .u8 0)).toArray := by
          apply Array.ext'
          simp only [bytesOf_size, Array.toList_append, Array.toList_map, Array.toList_replicate]
          congr 1
          simp only [bytesOf, List.map_map]
          apply List.map_congr_left
          intro b _
          simp
        have hrun : (convert src dst (.string (bytesOf l))).run P w = .ok (.slice (some ⟨w.heap.size, 0, none⟩) l.length c) (w.drew.alloc (.cells ((l.map fun b => Value.int .u8 ((b % 256 : Nat) : Int)) ++ List.replicate (c - l.length) (Value.int .u8 0)).toArray e (c, c + 1))) := by
          have hsh : ∀ (W : World) (A : Array Value), (W.alloc (.cells A e)).shape? W.heap.size = some (e, A.size) := fun W A => by simp only [World.shape?]; rw [heap_alloc_new]
          simp only [convert, Sem.run_bind, run_underlying hs, run_underlying hd, run_underlying hu', Result.andThen_ok, Conv.stringToBytes, run_choose, Question.forced, Bool.false_eq_true, if_false, ← hc, newRow, run_newObj, World.alloc_eq, World.drew_eq, Sem.run_pure, hA, markStringish, run_shape, World.size_drew]
          have := hsh w.drew ((l.map fun b => Value.int .u8 ((b % 256 : Nat) : Int)) ++ List.replicate (c - l.length) (Value.int .u8 0)).toArray
          rw [World.size_drew] at this
          simp only [this, run_freeze, Result.andThen_ok]
          rw [show w.heap.size = w.drew.heap.size from rfl, freeze_alloc]
          have hAs : (((l.map fun b => Value.int .u8 ((b % 256 : Nat) : Int)) ++ List.replicate (c - l.length) (Value.int .u8 0)).toArray).size = c := by simp; omega
          rw [hAs, bytesOf_size]
        refine ⟨_, _, hrun, ρ.add s.nm ⟨w.heap.size, c⟩, Env.le_add hn, fun n h => ?_, ?_, ?_⟩
        · by_cases e : n = s.nm
          · exact Or.inr (by simp [e])
          · exact Or.inl (by simpa [Env.add, e] using h)
        · simp [SV.val, Env.add_self, Place.addr]
        · refine (hsim.drew (w.drawn + 1)).new hn (hcro := rfl) ⟨_, e, (c, c + 1), rfl, by simp; omega, fun _ i hi => ?_, by simp; omega, (fun h => by cases h), _, SV.vals_le (Env.le_add hn) _ _ hvals, fun i v hv => ?_⟩
          · simp only [List.size_toArray, List.length_append, List.length_map, List.length_replicate] at hi
            simp only
            omega
          · obtain ⟨hi, rfl⟩ := List.getElem?_eq_some_iff.1 hv
            simp only [List.getElem?_toArray]
            rw [List.getElem?_append_left hi]
            exact hv
      · exact OpOk.fails
    · exact OpOk.fails
  · exact OpOk.fails
end
end Go.Proofs.YteecpkkgjioplaaDoor

/- Operations on abstract values: maps, iterators. -/
namespace Go.Proofs.YteecpkkgjioplaaDoor
open Go

section
variable {P : Program} {B : Base} {ρ : Env}

def eqK1 : SV → SV → Bool
  | .int k a, .int k' b => decide (k = k') && decide (a = b)
  | .str a, .str b => a == b
  | .bool a, .bool b => a == b
  | _, _ => false
def eqKs : List SV → List SV → Bool
  | [], [] => true
  | x :: l, y :: m => eqK1 x y && eqKs l m
  | _, _ => false
def eqK : SV → SV → Bool
  | .agg l, .agg m => eqKs l m
  | x, y => eqK1 x y
theorem eqK1_ok {x y : SV} (h : eqK1 x y = true) : x = y ∧ ∀ v, x.val ρ = some v → ∀ n, Instr.sameBits n v v = true := by
  cases x <;> cases y <;> simp only [eqK1, Bool.and_eq_true, decide_eq_true_eq, beq_iff_eq, reduceCtorEq] at h
  · subst h; exact ⟨rfl, fun v e n => by simp only [SV.val, Option.some.injEq] at e; subst e; cases n <;> simp [Instr.sameBits, beq_toListBytes]⟩
  · obtain ⟨rfl, rfl⟩ := h; exact ⟨rfl, fun v e n => by simp only [SV.val, Option.some.injEq] at e; subst e; cases n <;> simp [Instr.sameBits, beq_toListBytes]⟩
  · subst h; exact ⟨rfl, fun v e n => by simp only [SV.val, Option.some.injEq] at e; subst e; cases n <;> simp [Instr.sameBits, beq_toListBytes]⟩
theorem eqKs_ok : ∀ {l m : List SV}, eqKs l m = true → l = m ∧ ∀ vs, SV.vals ρ l = some vs → ∀ n, ∀ v ∈ vs, Instr.sameBits n v v = true
  | [], [], _ => ⟨rfl, fun vs h n v hv => by simp only [SV.vals, Option.some.injEq] at h; subst h; cases hv⟩
  | [], y :: m, h => by simp [eqKs] at h
  | x :: l, [], h => by simp [eqKs] at h
  | x :: l, y :: m, h => by
    simp only [eqKs, Bool.and_eq_true] at h
    obtain ⟨e1, f1⟩ := eqK1_ok (ρ := ρ) h.1
    obtain ⟨e2, f2⟩ := eqKs_ok h.2
    refine ⟨by rw [e1, e2], fun vs hvs n v hv => ?_⟩
    obtain ⟨u, us, hu, hus, rfl⟩ := SV.vals_cons hvs
    rcases List.mem_cons.1 hv with rfl | hv
    · exact f1 _ hu n
    · exact f2 us hus n v hv
theorem eqK_ok {x y : SV} (h : eqK x y = true) : x = y ∧ ∀ v, x.val ρ = some v → Instr.sameBits 10000 v v = true := by
  unfold eqK at h
  split at h
  · rename_i l m
    obtain ⟨e, f⟩ := eqKs_ok (ρ := ρ) h
    refine ⟨by rw [e], fun v hv => ?_⟩
    simp only [SV.val, Option.map_eq_some_iff] at hv
    obtain ⟨vs, hvs, rfl⟩ := hv
    simp only [Instr.sameBits, beq_self_eq_true, Bool.true_and, List.all_eq_true]
    intro p hp
    have : p.1 = p.2 ∧ p.1 ∈ vs := by
      rw [List.mem_iff_getElem?] at hp
      obtain ⟨i, hi⟩ := hp
      rw [List.getElem?_zip_eq_some] at hi
      exact ⟨Option.some.inj (hi.1.symm.trans hi.2), List.mem_of_getElem? hi.1⟩
    obtain ⟨e1, e2⟩ := this
    rw [← e1]
    exact f vs hvs 9999 p.1 e2
  · obtain ⟨e, f⟩ := eqK1_ok (ρ := ρ) h
    exact ⟨e, fun v hv => f v hv 10000⟩

/-- May it be a key? -/
def checkS (P : Program) : Nat → TypeId → SV → Bool
  | 0, _, _ => false
  | n + 1, t, x =>
    match P.underlying t with
    | none => false
    | some (.interface _) => false
    | some (.struct _) => false
    | some (.array len e) =>
      match x with
      | .agg l => (P.info? e).isSome && (List.range len).all fun i => match partS P e l (i * P.cellsOf e) with | some y => checkS P n e y | none => false
      | _ => false
    | some _ => true
theorem forIn_units {α : Type} {g : α → PUnit → Sem (ForInStep PUnit)} {w : World} : ∀ (l : List α), (∀ x ∈ l, (g x ⟨⟩).run P w = .ok (.yield ⟨⟩) w) → (forIn l PUnit.unit g).run P w = .ok ⟨⟩ w
  | [], _ => by simp
  | x :: l, h => by
    have h1 := h x (by simp)
    have ih := forIn_units l (fun y hy => h y (by simp [hy]))
    simp only [List.forIn_cons, Sem.run_bind, h1, Result.andThen_ok]
    exact ih
theorem check_ok {em : Bool} : ∀ (n : Nat) (t : TypeId) (x : SV) (v : Value) (w : World), checkS P n t x = true → x.val ρ = some v → (Instr.checkKey em n t v).run P w = .ok () w
  | 0, t, x, v, w, h, _ => by simp [checkS] at h
  | n + 1, t, x, v, w, h, hv => by
    simp only [checkS] at h
    cases hu : P.underlying t with
    | none => simp [hu] at h
    | some d =>
      simp only [hu] at h
      cases d
      case interface => simp at h
      case struct => simp at h
      case array len e =>
        simp only at h
        cases x <;> simp only [reduceCtorEq] at h
        rename_i l
        simp only [SV.val, Option.map_eq_some_iff] at hv
        obtain ⟨vs, hvs, rfl⟩ := hv
        simp only [Bool.and_eq_true, List.all_eq_true] at h
        obtain ⟨i, hi⟩ := Option.isSome_iff_exists.1 h.1
        simp only [Instr.checkKey, Sem.run_bind, run_underlying hu, Result.andThen_ok]
        rw [Std.Legacy.Range.forIn_eq_forIn_range']
        refine (congrArg (fun r => Result.andThen r _) (forIn_units (P := P) (w := w) _ (fun k hk => ?_))).trans rfl
        have hk' : k ∈ List.range len := by simpa [Std.Legacy.Range.size, List.range_eq_range'] using hk
        have hc := h.2 k hk'
        have hcell : P.cellsOf e = i.size := by simp [Program.cellsOf, hi]
        cases hp : partS P e l (k * P.cellsOf e) with
        | none => simp [hp] at hc
        | some y =>
          simp only [hp] at hc
          obtain ⟨u, hu1, hu2⟩ := part_ok hvs hp
          rw [hcell] at hu2
          simp only [Sem.run_bind, run_sizeOf' hi, Result.andThen_ok, hu2, check_ok n e y u w hc hu1, Sem.run_pure]
      all_goals
        simp only [Instr.checkKey, Sem.run_bind, run_underlying hu, Result.andThen_ok]
        cases v <;> rfl
end
end Go.Proofs.YteecpkkgjioplaaDoor

/- Operations on abstract values: maps, iterators, proved. -/
namespace Go.Proofs.YteecpkkgjioplaaDoor
open Go

section
variable {P : Program} {B : Base} {ρ : Env}

def findS (P : Program) (kt : TypeId) (k : SV) : List (Nat × SV × SV) → Nat → Option (Option (Nat × SV))
  | [], _ => some none
  | (_, k', v) :: r, i =>
    match eqS P Op.maxDepth kt k k' with
    | some true => some (some (i, v))
    | some false => findS P kt k r (i + 1)
    | none => none
def nowKind : TypeDesc → Bool
  | .int _ => true
  | .string => true
  | .bool => true
  | _ => false
/-- A place found, as the model has it. -/
def FRel (ρ : Env) : Option (Nat × SV) → Option (Nat × Value) → Prop
  | none, none => True
  | some (i, x), some (j, v) => i = j ∧ x.val ρ = some v
  | _, _ => False
theorem sameNow_at {kt : TypeId} {d : TypeDesc} {D : Nat} (hd : P.underlying kt = some d) (hn : nowKind d = true) {x y : SV} {b : Bool} {v u : Value} (h : eqS P (D + 1) kt x y = some b) (hx : x.val ρ = some v) (hy : y.val ρ = some u) :
    Instr.sameNow d v u = some b := by
  cases d <;> simp [nowKind] at hn <;> simp only [eqS, hd] at h
  · split at h
    · simp only [SV.val, Option.some.injEq] at h hx hy; subst h; subst hx; subst hy
      rfl
    · cases h
  · split at h
    · split at h
      · rename_i e
        subst e
        simp only [SV.val, Option.some.injEq] at h hx hy; subst h; subst hx; subst hy
        simp [Instr.sameNow]
      · cases h
    · cases h
  · split at h
    · simp only [SV.val, Option.some.injEq] at h hx hy; subst h; subst hx; subst hy
      simp only [Instr.sameNow, beq_toListBytes, eqBytes_ok]
    · cases h
theorem sameNow_ok {kt : TypeId} {d : TypeDesc} (hd : P.underlying kt = some d) (hn : nowKind d = true) {x y : SV} {b : Bool} {v u : Value} (h : eqS P Op.maxDepth kt x y = some b) (hx : x.val ρ = some v) (hy : y.val ρ = some u) :
    Instr.sameNow d v u = some b := sameNow_at (D := 9999) hd hn h hx hy
theorem findNow_ok {kt : TypeId} {d : TypeDesc} (hd : P.underlying kt = some d) (hn : nowKind d = true) {k : SV} {kv : Value} (hk : k.val ρ = some kv) : ∀ {es : List (Nat × SV × SV)} {r : List MapEntry} (_ : Ents ρ es r) (i : Nat) (o : Option (Nat × SV)), findS P kt k es i = some o →
    ∃ q, Instr.findNow d kv r i = some q ∧ FRel ρ o q
  | _, _, .nil, i, o, h => by
    simp only [findS, Option.some.injEq] at h
    subst h
    exact ⟨none, rfl, trivial⟩
  | _, _, .cons (k := k') (v := v') (e := e) hb hk' hv' t, i, o, h => by
    simp only [findS] at h
    cases he : eqS P Op.maxDepth kt k k' with
    | none => simp [he] at h
    | some b =>
      have hs := sameNow_ok hd hn he hk hk'
      simp only [he] at h
      cases b with
      | true =>
        simp only [Option.some.injEq] at h
        subst h
        exact ⟨some (i, e.val), by simp [Instr.findNow, hs], rfl, hv'⟩
      | false =>
        obtain ⟨q, h1, h2⟩ := findNow_ok hd hn hk t (i + 1) o h
        exact ⟨q, by simp [Instr.findNow, hs, h1], h2⟩
theorem findAsk_ok {kt : TypeId} {k : SV} {kv : Value} (hk : k.val ρ = some kv) (w : World) : ∀ {es : List (Nat × SV × SV)} {r : List MapEntry} (_ : Ents ρ es r) (i : Nat) (o : Option (Nat × SV)), findS P kt k es i = some o →
    ∃ q, (Instr.findAsking kt kv r i).run P w = .ok q w ∧ FRel ρ o q
  | _, _, .nil, i, o, h => by
    simp only [findS, Option.some.injEq] at h
    subst h
    exact ⟨none, rfl, trivial⟩
  | _, _, .cons (k := k') (v := v') (e := e) hb hk' hv' t, i, o, h => by
    simp only [findS] at h
    cases he : eqS P Op.maxDepth kt k k' with
    | none => simp [he] at h
    | some b =>
      have hs := eqS_ok _ kt k k' b kv e.key he hk hk' w
      simp only [he] at h
      cases b with
      | true =>
        simp only [Option.some.injEq] at h
        subst h
        exact ⟨some (i, e.val), by simp [Instr.findAsking, Op.equal, hs], rfl, hv'⟩
      | false =>
        obtain ⟨q, h1, h2⟩ := findAsk_ok hk w t (i + 1) o h
        exact ⟨q, by simp [Instr.findAsking, Op.equal, hs, h1], h2⟩
theorem findKey_ok {kt : TypeId} {d : TypeDesc} (hd : P.underlying kt = some d) {k : SV} {kv : Value} (hk : k.val ρ = some kv) (w : World) {es : List (Nat × SV × SV)} {r : List MapEntry} (he : Ents ρ es r) {o : Option (Nat × SV)} (h : findS P kt k es 0 = some o) :
    ∃ q, (Instr.findKey kt kv r).run P w = .ok q w ∧ FRel ρ o q := by
  by_cases hn : nowKind d = true
  · obtain ⟨q, h1, h2⟩ := findNow_ok hd hn hk he 0 o h
    exact ⟨q, by simp [Instr.findKey, run_underlying hd, h1], h2⟩
  · obtain ⟨q, h1, h2⟩ := findAsk_ok (P := P) hk w he 0 o h
    refine ⟨q, ?_, h2⟩
    have hnow : Instr.findNow d kv r 0 = none ∨ r = [] := by
      cases r with
      | nil => exact Or.inr rfl
      | cons e r =>
        left
        have : Instr.sameNow d kv e.key = none := by cases d <;> simp [nowKind] at hn <;> rfl
        simp [Instr.findNow, this]
    rcases hnow with hnow | rfl
    · simp [Instr.findKey, run_underlying hd, hnow, h1]
    · cases he
      simp only [findS, Option.some.injEq] at h
      subst h
      cases q with
      | none => simp [Instr.findKey, run_underlying hd, Instr.findNow]
      | some q => cases h2

theorem getObj_run {w : World} {b : Nat} {arr : Array MapEntry} {clock : Nat} (h : w.heap[b]? = some (.map arr clock)) : (getObj b).run P w = .ok (.map arr clock) w := by
  simp [getObj, Sem.run, h]
theorem setObj_run {w : World} {b : Nat} {o o' : Obj} (h : w.heap[b]? = some o) (hc : ∀ c e f, o ≠ .cells c e f) : (setObj b o').run P w = .ok () { w with heap := w.heap.setIfInBounds b o' } := by
  cases o <;> first | exact absurd rfl (hc _ _ _) | simp [setObj, Sem.run, h]
theorem setObj_but (w : World) (b : Nat) (o' : Obj) : OneBut b w { w with heap := w.heap.setIfInBounds b o' } :=
  ⟨by simp, rfl, rfl, rfl, fun k hk => by simp only; rw [Array.getElem?_setIfInBounds_ne (by omega)]⟩
theorem setObj_at {w : World} {b : Nat} {o o' : Obj} (h : w.heap[b]? = some o) : ({ w with heap := w.heap.setIfInBounds b o' } : World).heap[b]? = some o' := by
  have := (Array.getElem?_eq_some_iff.1 h).1
  simp [this]

/-- LOOKUP. -/
def lookupM (P : Program) (t : TypeId) (x k : SV) (ok : Bool) : MM SV :=
  match P.underlying t with
  | some (.map kt et) =>
    match P.underlying kt, P.info? et with
    | some _, some j =>
      match j.zero with
      | some z =>
        bif checkS P 10000 kt k then
          match x with
          | .nilm => .ret (bif ok then .tup [toSV z, .bool false] else toSV z)
          | .mp n => .get n fun c =>
            match c with
            | .map es _ =>
              match findS P kt k es 0 with
              | some (some (_, v)) => .ret (bif ok then .tup [v, .bool true] else v)
              | some none => .ret (bif ok then .tup [toSV z, .bool false] else toSV z)
              | none => .fail
            | _ => .fail
          | _ => .fail
        else .fail
      | none => .fail
    | _, _ => .fail
  | _ => .fail
theorem okTup {x : SV} {v : Value} {ok b : Bool} (hx : x.val ρ = some v) : (bif ok then SV.tup [x, .bool b] else x).val ρ = some (if ok then .tuple #[v, .bool b] else v) := by
  cases ok
  · simpa using hx
  · simp [SV.val, SV.vals, hx]
theorem lookup_ok {t : TypeId} {x k : SV} {v u : Value} {ok : Bool} (hx : x.val ρ = some v) (hk : k.val ρ = some u) : OpOk P B ρ (lookupM P t x k ok) (Instr.lookup t v u ok) := by
  unfold lookupM
  split
  · rename_i kt et hu
    split
    · rename_i d j hd hj
      cases hz : j.zero with
      | none => simp only [hz]; exact OpOk.fails
      | some z =>
        simp only [hz]
        cases hc : checkS P 10000 kt k with
        | false => exact OpOk.fails
        | true =>
          simp only [cond_true]
          have hchk := fun em w => check_ok (P := P) (ρ := ρ) (em := em) 10000 kt k u w hc hk
          split
          · simp only [SV.val, Option.some.injEq] at hx; subst hx
            refine OpOk.ret (okTup (toSV_val ρ z)) fun w => ?_
            obtain ⟨q, h1, h2⟩ := findKey_ok (P := P) hd hk w .nil (o := none) rfl
            cases q with
            | some q => cases h2
            | none => cases ok <;> simp [Instr.lookup, run_underlying hu, hchk, h1, run_zero' hj hz]
          · rename_i n
            intro s s' r w _ hs e'
            simp only [MM.run] at e'
            simp only [SV.val, Option.map_eq_some_iff] at hx; obtain ⟨p, hp, rfl⟩ := hx
            cases hc : s.hp.get n with
            | none => simp [hc] at e'
            | some ch =>
              simp only [hc] at e'
              obtain ⟨q, hq, ⟨o, ho, hob⟩, hM⟩ := hs.own n ch hc
              rw [hp] at hq
              obtain rfl := Option.some.inj hq
              cases ch <;> simp only [MM.run, reduceCtorEq] at e'
              rename_i es clock
              obtain ⟨arr, rfl, hents⟩ := hob
              cases hf : findS P kt k es 0 with
              | none => simp [hf, MM.run] at e'
              | some o =>
                obtain ⟨q, h1, h2⟩ := findKey_ok (P := P) hd hk w hents hf
                simp only [hf] at e'
                cases o with
                | none =>
                  cases q with
                  | some q => cases h2
                  | none =>
                    simp only [MM.run, Option.some.injEq, Prod.mk.injEq] at e'
                    obtain ⟨rfl, rfl⟩ := e'
                    refine ⟨_, w, ?_, ρ, Env.le.refl ρ, fun n hn => Or.inl hn, okTup (toSV_val ρ z), hs⟩
                    cases ok <;> simp [Instr.lookup, run_underlying hu, hchk, h1, run_zero' hj hz, getObj_run ho]
                | some iv =>
                  obtain ⟨i, y⟩ := iv
                  cases q with
                  | none => cases h2
                  | some q =>
                    obtain ⟨i', y'⟩ := q
                    obtain ⟨rfl, hy⟩ := h2
                    simp only [MM.run, Option.some.injEq, Prod.mk.injEq] at e'
                    obtain ⟨rfl, rfl⟩ := e'
                    refine ⟨_, w, ?_, ρ, Env.le.refl ρ, fun n hn => Or.inl hn, okTup hy, hs⟩
                    cases ok <;> simp [Instr.lookup, run_underlying hu, hchk, h1, getObj_run ho]
          · exact OpOk.fails
    · exact OpOk.fails
  · exact OpOk.fails

theorem Ents.get {es : List (Nat × SV × SV)} {r : List MapEntry} (h : Ents ρ es r) : ∀ {i b : Nat} {k v : SV}, es[i]? = some (b, k, v) → ∃ e, r[i]? = some e ∧ e.born = b ∧ k.val ρ = some e.key ∧ v.val ρ = some e.val := by
  induction h with
  | nil => intro i b k v h; simp at h
  | cons hb hk hv t ih =>
    intro i b k v h
    cases i with
    | zero =>
      simp only [List.getElem?_cons_zero, Option.some.injEq, Prod.mk.injEq] at h
      obtain ⟨rfl, rfl, rfl⟩ := h
      exact ⟨_, rfl, hb, hk, hv⟩
    | succ i => simp only [List.getElem?_cons_succ] at h ⊢; exact ih h
theorem Ents.snoc {es : List (Nat × SV × SV)} {r : List MapEntry} (h : Ents ρ es r) {b : Nat} {k v : SV} {e : MapEntry} (hb : e.born = b) (hk : k.val ρ = some e.key) (hv : v.val ρ = some e.val) : Ents ρ (es ++ [(b, k, v)]) (r ++ [e]) := by
  induction h with
  | nil => exact .cons hb hk hv .nil
  | cons hb' hk' hv' t ih => exact .cons hb' hk' hv' ih
theorem Ents.set {es : List (Nat × SV × SV)} {r : List MapEntry} (h : Ents ρ es r) : ∀ {i b : Nat} {k v : SV} {e : MapEntry}, e.born = b → k.val ρ = some e.key → v.val ρ = some e.val → Ents ρ (es.set i (b, k, v)) (r.set i e) := by
  induction h with
  | nil => intro i b k v e _ _ _; exact .nil
  | cons hb hk hv t ih =>
    intro i b k v e h1 h2 h3
    cases i with
    | zero => exact .cons h1 h2 h3 t
    | succ i => exact .cons hb hk hv (ih h1 h2 h3)
theorem Ents.erase {es : List (Nat × SV × SV)} {r : List MapEntry} (h : Ents ρ es r) : ∀ {i : Nat}, Ents ρ (es.eraseIdx i) (r.eraseIdx i) := by
  induction h with
  | nil => intro i; exact .nil
  | cons hb hk hv t ih =>
    intro i
    cases i with
    | zero => exact t
    | succ i => exact .cons hb hk hv ih

/-- MAP UPDATE. -/
def updateM (P : Program) (t : TypeId) (x k y : SV) : MM SV :=
  match P.underlying t with
  | some (.map kt _) =>
    match P.underlying kt, x with
    | some _, .mp n => .get n fun c =>
      match c with
      | .map es clock =>
        bif checkS P 10000 kt k then
          match findS P kt k es 0 with
          | some none => .put n (.map (es ++ [(clock, k, y)]) (clock + 1)) (.ret (.tup []))
          | some (some (i, _)) =>
            match es[i]? with
            | some (b, k', _) => bif eqK k' k then .put n (.map (es.set i (b, k, y)) clock) (.ret (.tup [])) else .fail
            | none => .fail
          | none => .fail
        else .fail
      | _ => .fail
    | _, _ => .fail
  | _ => .fail
theorem modify_toList (arr : Array MapEntry) (i : Nat) (f : MapEntry → MapEntry) (e : MapEntry) (h : arr[i]? = some e) : (arr.modify i f).toList = arr.toList.set i (f e) := by
  apply List.ext_getElem?
  intro j
  rw [Array.getElem?_toList, Array.getElem?_modify, List.getElem?_set]
  have hlt := (Array.getElem?_eq_some_iff.1 h).1
  by_cases hj : i = j
  · subst hj; rw [h]; simp [hlt]
  · simp [hj]
theorem update_ok {t : TypeId} {x k y : SV} {v u z : Value} (hx : x.val ρ = some v) (hk : k.val ρ = some u) (hy : y.val ρ = some z) : OpOk P B ρ (updateM P t x k y) (do Instr.mapUpdate t v u z; pure undef) := by
  unfold updateM
  split
  · rename_i kt et hu
    split
    · rename_i d n hd
      intro s s' r w _ hs e'
      simp only [MM.run] at e'
      simp only [SV.val, Option.map_eq_some_iff] at hx; obtain ⟨p, hp, rfl⟩ := hx
      cases hc : s.hp.get n with
      | none => simp [hc] at e'
      | some ch =>
        simp only [hc] at e'
        obtain ⟨q, hq, ⟨o, ho, hob⟩, hM⟩ := hs.own n ch hc
        rw [hp] at hq
        obtain rfl := Option.some.inj hq
        cases ch <;> simp only [MM.run, reduceCtorEq] at e'
        rename_i es clock
        obtain ⟨arr, rfl, hents⟩ := hob
        cases hch : checkS P 10000 kt k with
        | false => simp [hch, MM.run] at e'
        | true =>
          have hchk := check_ok (P := P) (ρ := ρ) (em := false) 10000 kt k u w hch hk
          simp only [hch, cond_true] at e'
          cases hf : findS P kt k es 0 with
          | none => simp [hf, MM.run] at e'
          | some o =>
            obtain ⟨q, h1, h2⟩ := findKey_ok (P := P) hd hk w hents hf
            simp only [hf] at e'
            cases o with
            | none =>
              cases q with
              | some q => cases h2
              | none =>
                simp only [MM.run, hc, Chunk.ro, Bool.or_false, cond_false, Option.some.injEq, Prod.mk.injEq] at e'
                obtain ⟨rfl, rfl⟩ := e'
                have hset := setObj_run (P := P) (o' := .map (arr.push { key := u, val := z, born := clock }) (clock + 1)) ho (by simp)
                have hbut := setObj_but w p.b (.map (arr.push { key := u, val := z, born := clock }) (clock + 1))
                refine ⟨undef, { w with heap := w.heap.setIfInBounds p.b (.map (arr.push { key := u, val := z, born := clock }) (clock + 1)) }, ?_, ρ, Env.le.refl ρ, fun n hn => Or.inl hn, rfl, ?_⟩
                rotate_left
                · exact hs.change (c' := .map (es ++ [(clock, k, y)]) (clock + 1)) hc rfl hp hbut.size hbut.tape hbut.os hbut.output hbut.heap rfl ⟨_, setObj_at ho, _, rfl, by simpa using hents.snoc (e := { key := u, val := z, born := clock }) rfl hk hy⟩
                · simp only [Instr.mapUpdate, Sem.run_bind, run_underlying hu, Result.andThen_ok, getObj_run ho, hchk, h1, hset, Sem.run_pure]
            | some iv =>
              obtain ⟨i, y0⟩ := iv
              cases q with
              | none => cases h2
              | some q =>
                obtain ⟨i', y'⟩ := q
                obtain ⟨rfl, _⟩ := h2
                cases hei : es[i]? with
                | none => simp [hei, MM.run] at e'
                | some bk =>
                  obtain ⟨b, k', v'⟩ := bk
                  simp only [hei] at e'
                  cases hek : eqK k' k with
                  | false => simp [hek, MM.run] at e'
                  | true =>
                    simp only [hek, cond_true, MM.run, hc, Chunk.ro, Bool.or_false, cond_false, Option.some.injEq, Prod.mk.injEq] at e'
                    obtain ⟨rfl, rfl⟩ := e'
                    obtain ⟨hkk, hsb⟩ := eqK_ok (ρ := ρ) hek
                    subst hkk
                    obtain ⟨en, g1, g2, g3, g4⟩ := hents.get hei
                    rw [hk] at g3
                    have g3' : u = en.key := Option.some.inj g3
                    have g1' : arr[i]? = some en := by simpa using g1
                    have hst : (Instr.keyThatStays (((arr[i]?).map (·.key)).getD u) u).run P w = .ok u w := by
                      simp only [g1', Option.map_some, Option.getD_some, Instr.keyThatStays, ← g3', hsb u hk, if_true, Sem.run_pure]
                    have hset := setObj_run (P := P) (o' := .map (arr.modify i fun e => { e with key := u, val := z }) clock) ho (by simp)
                    have hbut := setObj_but w p.b (.map (arr.modify i fun e => { e with key := u, val := z }) clock)
                    refine ⟨undef, { w with heap := w.heap.setIfInBounds p.b (.map (arr.modify i fun e => { e with key := u, val := z }) clock) }, ?_, ρ, Env.le.refl ρ, fun n hn => Or.inl hn, rfl, ?_⟩
                    rotate_left
                    · refine hs.change (c' := .map (es.set i (b, k', y)) clock) hc rfl hp hbut.size hbut.tape hbut.os hbut.output hbut.heap rfl ⟨_, setObj_at ho, _, rfl, ?_⟩
                      rw [modify_toList _ _ _ _ g1']
                      exact hents.set (e := { en with key := u, val := z }) g2 hk hy
                    · simp only [Instr.mapUpdate, Sem.run_bind, run_underlying hu, Result.andThen_ok, getObj_run ho, hchk, h1, hst, hset, Sem.run_pure]
    · exact OpOk.fails
  · exact OpOk.fails

/-- DELETE. -/
def deleteM (P : Program) (ts : Array TypeId) (x k : SV) : MM SV :=
  match ts[0]? with
  | some t =>
    match P.underlying t with
    | some (.map kt _) =>
      match P.underlying kt with
      | some _ =>
        bif checkS P 10000 kt k then
          match x with
          | .nilm => .ret (.tup [])
          | .mp n => .get n fun c =>
            match c with
            | .map es clock =>
              match findS P kt k es 0 with
              | some none => .put n (.map es clock) (.ret (.tup []))
              | some (some (i, _)) => .put n (.map (es.eraseIdx i) clock) (.ret (.tup []))
              | none => .fail
            | _ => .fail
          | _ => .fail
        else .fail
      | none => .fail
    | _ => .fail
  | none => .fail
theorem delete_ok {ts : Array TypeId} {ty : TypeId} {x k : SV} {v u : Value} (hx : x.val ρ = some v) (hk : k.val ρ = some u) : OpOk P B ρ (deleteM P ts x k) (Builtin.delete_ ts ty #[v, u]) := by
  unfold deleteM
  split
  · rename_i t ht
    split
    · rename_i kt et hu
      cases hd : P.underlying kt with
      | none => exact OpOk.fails
      | some d =>
        simp only
        cases hch : checkS P 10000 kt k with
        | false => exact OpOk.fails
        | true =>
          have hchk := fun em w => check_ok (P := P) (ρ := ρ) (em := em) 10000 kt k u w hch hk
          simp only [cond_true]
          split
          · simp only [SV.val, Option.some.injEq] at hx; subst hx
            exact OpOk.ret (v := .tuple #[]) rfl fun w => by simp [Builtin.delete_, ht, run_underlying hu, hchk]
          · rename_i n
            intro s s' r w _ hs e'
            simp only [MM.run] at e'
            simp only [SV.val, Option.map_eq_some_iff] at hx; obtain ⟨p, hp, rfl⟩ := hx
            cases hc : s.hp.get n with
            | none => simp [hc] at e'
            | some ch =>
              simp only [hc] at e'
              obtain ⟨q, hq, ⟨o, ho, hob⟩, hM⟩ := hs.own n ch hc
              rw [hp] at hq
              obtain rfl := Option.some.inj hq
              cases ch <;> simp only [MM.run, reduceCtorEq] at e'
              rename_i es clock
              obtain ⟨arr, rfl, hents⟩ := hob
              cases hf : findS P kt k es 0 with
              | none => simp [hf, MM.run] at e'
              | some o =>
                obtain ⟨q, h1, h2⟩ := findKey_ok (P := P) hd hk w hents hf
                simp only [hf] at e'
                cases o with
                | none =>
                  cases q with
                  | some q => cases h2
                  | none =>
                    simp only [MM.run, hc, Chunk.ro, Bool.or_false, cond_false, Option.some.injEq, Prod.mk.injEq] at e'
                    obtain ⟨rfl, rfl⟩ := e'
                    have hset := setObj_run (P := P) (o' := .map arr clock) ho (by simp)
                    have hbut := setObj_but w p.b (.map arr clock)
                    refine ⟨.tuple #[], { w with heap := w.heap.setIfInBounds p.b (.map arr clock) }, ?_, ρ, Env.le.refl ρ, fun n hn => Or.inl hn, rfl, ?_⟩
                    rotate_left
                    · exact hs.change (c' := .map es clock) hc rfl hp hbut.size hbut.tape hbut.os hbut.output hbut.heap rfl ⟨_, setObj_at ho, _, rfl, hents⟩
                    · simp [Builtin.delete_, ht, run_underlying hu, hchk, h1, getObj_run ho, hset]
                | some iv =>
                  obtain ⟨i, y0⟩ := iv
                  cases q with
                  | none => cases h2
                  | some q =>
                    obtain ⟨i', y'⟩ := q
                    obtain ⟨rfl, _⟩ := h2
                    simp only [MM.run, hc, Chunk.ro, Bool.or_false, cond_false, Option.some.injEq, Prod.mk.injEq] at e'
                    obtain ⟨rfl, rfl⟩ := e'
                    have hset := setObj_run (P := P) (o' := .map (arr.eraseIdxIfInBounds i) clock) ho (by simp)
                    have hbut := setObj_but w p.b (.map (arr.eraseIdxIfInBounds i) clock)
                    refine ⟨.tuple #[], { w with heap := w.heap.setIfInBounds p.b (.map (arr.eraseIdxIfInBounds i) clock) }, ?_, ρ, Env.le.refl ρ, fun n hn => Or.inl hn, rfl, ?_⟩
                    rotate_left
                    · refine hs.change (c' := .map (es.eraseIdx i) clock) hc rfl hp hbut.size hbut.tape hbut.os hbut.output hbut.heap rfl ⟨_, setObj_at ho, _, rfl, ?_⟩
                      have : (arr.eraseIdxIfInBounds i).toList = arr.toList.eraseIdx i := by
                        unfold Array.eraseIdxIfInBounds
                        split
                        · simp
                        · rename_i hge
                          rw [List.eraseIdx_of_length_le (by simp; omega)]
                      rw [this]
                      exact hents.erase
                    · simp [Builtin.delete_, ht, run_underlying hu, hchk, h1, getObj_run ho, hset]
          · exact OpOk.fails
    · exact OpOk.fails
  · exact OpOk.fails
end
end Go.Proofs.YteecpkkgjioplaaDoor

/- Operations on abstract values: iterators. -/
namespace Go.Proofs.YteecpkkgjioplaaDoor
open Go

section
variable {P : Program} {B : Base} {ρ : Env}

theorem makeMap_ok {t : TypeId} {r : Option Value} (hr : r = none ∨ (∃ k e, P.underlying t = some (.map k e)) ∧ ∃ k n, r = some (.int k n)) :
    OpOk P B ρ (.new (.map [] 0) fun n => .ret (.mp n)) (Instr.makeMap t r) := by
  intro s s' q w hf hs e
  simp only [MM.run, Chunk.ro, cond_false, Option.some.injEq, Prod.mk.injEq] at e
  obtain ⟨rfl, rfl⟩ := e
  have hn : ρ s.nm = none := hf _ (Nat.le_refl _) (by simp)
  refine ⟨.map (some w.heap.size), w.alloc (.map #[] 0), ?_, ρ.add s.nm ⟨w.heap.size, 0⟩, Env.le_add hn, fun n h => ?_, by simp [SV.val, Env.add_self], hs.new hn ⟨#[], rfl, .nil⟩ rfl⟩
  · rcases hr with rfl | ⟨⟨k, e, hu⟩, k', n, rfl⟩
    · simp [Instr.makeMap]
    · simp [Instr.makeMap, run_underlying hu, asInt, asIntOf]
  · by_cases e : n = s.nm
    · exact Or.inr (by simp [e])
    · exact Or.inl (by simpa [Env.add, e] using h)

/-- RANGE. -/
def rangeM (P : Program) (t : TypeId) (x : SV) : MM SV :=
  match P.underlying t, x with
  | some .string, .str s => .new (.strIt s 0) fun n => .ret (.ptr n 0)
  | some (.map _ _), .nilm => .new (.mapIt none 0 [] 0) fun n => .ret (.ptr n 0)
  | some (.map _ _), .mp m => .get m fun c =>
    match c with
    | .map _ clock => .new (.mapIt (some m) clock [] clock) fun n => .ret (.ptr n 0)
    | _ => .fail
  | _, _ => .fail
theorem newIt {s s' : St} {q : SV} {w : World} {c : Chunk} {o : Obj} (hs : Sim B ρ s.hp w) (hf : ∀ n, s.nm ≤ n → n < s'.nm → ρ n = none) (e : (MM.new c fun n => .ret (.ptr n 0)).run s = some (q, s')) (hc : ∀ ρ' p, Env.le ρ ρ' → c.obj ρ' p o) :
    Out B ρ s.nm s'.nm s'.hp q (.pointer (some ⟨w.heap.size, 0, none⟩)) (w.alloc o) := by
  simp only [MM.run] at e
  cases hro : c.ro with
  | true => simp [hro] at e
  | false =>
    simp only [hro, cond_false, Option.some.injEq, Prod.mk.injEq] at e
    obtain ⟨rfl, rfl⟩ := e
    have hn : ρ s.nm = none := hf _ (Nat.le_refl _) (by simp)
    refine ⟨ρ.add s.nm ⟨w.heap.size, 0⟩, Env.le_add hn, fun n h => ?_, by simp [SV.val, Env.add_self, Place.addr], hs.new hn (hc _ _ (Env.le_add hn)) hro⟩
    by_cases e : n = s.nm
    · exact Or.inr (by simp [e])
    · exact Or.inl (by simpa [Env.add, e] using h)
theorem range_ok {t : TypeId} {x : SV} {v : Value} (hx : x.val ρ = some v) : OpOk P B ρ (rangeM P t x) (Instr.range t v) := by
  unfold rangeM
  split
  · rename_i s0 hu
    intro s s' q w hf hs e
    simp only [SV.val, Option.some.injEq] at hx; subst hx
    exact ⟨_, w.alloc (.stringIter (bytesOf s0) 0), by simp [Instr.range, run_underlying hu], newIt hs hf e fun ρ' p _ => by simp [Chunk.obj]⟩
  · rename_i k e0 hu
    intro s s' q w hf hs e
    simp only [SV.val, Option.some.injEq] at hx; subst hx
    exact ⟨_, w.alloc (.mapIter none 0 #[] 0), by simp [Instr.range, run_underlying hu], newIt hs hf e fun ρ' p _ => ⟨none, rfl, by simp, by simp⟩⟩
  · rename_i k e0 m hu
    intro s s' q w hf hs e
    simp only [MM.run] at e
    simp only [SV.val, Option.map_eq_some_iff] at hx; obtain ⟨p, hp, rfl⟩ := hx
    cases hc : s.hp.get m with
    | none => simp [hc] at e
    | some ch =>
      simp only [hc] at e
      obtain ⟨q', hq, ⟨o, ho, hob⟩, hM⟩ := hs.own m ch hc
      rw [hp] at hq
      obtain rfl := Option.some.inj hq
      cases ch with
      | map es clock =>
        obtain ⟨arr, rfl, hents⟩ := hob
        have := newIt (s := ⟨s.nm, s.hp, s.rd ||| 2 ^ m, s.wr⟩) (o := .mapIter (some p.b) clock #[] clock) hs hf e fun ρ' p' hle => ⟨some p.b, rfl, fun n hn => by simp only [Option.some.injEq] at hn; subst hn; exact ⟨p, hle _ _ hp, rfl⟩, by simp⟩
        exact ⟨_, w.alloc (.mapIter (some p.b) clock #[] clock), by simp [Instr.range, run_underlying hu, getObj_run ho], this⟩
      | _ => simp [MM.run] at e
  · exact OpOk.fails

theorem filter_ents {es : List (Nat × SV × SV)} {r : List MapEntry} (h : Ents ρ es r) (f : Nat → Bool) : Ents ρ (es.filter fun x => f x.1) (r.filter fun e => f e.born) := by
  induction h with
  | nil => exact .nil
  | cons hb hk hv t ih =>
    subst hb
    simp only [List.filter_cons]
    split
    · exact .cons rfl hk hv ih
    · exact ih
theorem all_ents {es : List (Nat × SV × SV)} {r : List MapEntry} (h : Ents ρ es r) (f : Nat → Bool) : (r.all fun e => f e.born) = (es.all fun x => f x.1) := by
  induction h with
  | nil => rfl
  | cons hb hk hv t ih => subst hb; simp [ih]

/-- NEXT. -/
def nextM (x : SV) (isStr : Bool) : MM SV :=
  match x with
  | .ptr n 0 => .get n fun c =>
    match c, isStr with
    | .strIt s pos, true =>
      match s[pos]? with
      | some b => bif Nat.blt (b % 256) 128 then .put n (.strIt s (pos + 1)) (.ret (.tup [.bool true, .int .i64 pos, .int .i32 ((b % 256 : Nat) : Int)])) else .fail
      | none => .ret (.tup [.bool false])
    | .mapIt none _ _ _, false => .ret (.tup [.bool false])
    | .mapIt (some m) since seen last, false => .get m fun d =>
      match d with
      | .map es clock =>
        bif !seen.isEmpty && !es.isEmpty && es.all (fun x => decide (x.1 ≥ last)) then .fail else
        match es.filter fun x => !seen.contains x.1 with
        | [] => .ret (.tup [.bool false])
        | [(b, k, v)] => bif Nat.blt b since then .put n (.mapIt (some m) since (seen ++ [b]) clock) (.ret (.tup [.bool true, k, v])) else .fail
        | _ => .fail
      | _ => .fail
    | _, _ => .fail
  | _ => .fail
theorem getObj_it {w : World} {b : Nat} {o : Obj} (h : w.heap[b]? = some o) (hc : ∀ c e f, o ≠ .cells c e f) : (getObj b).run P w = .ok o w := by
  cases o <;> first | exact absurd rfl (hc _ _ _) | simp [getObj, Sem.run, h]
theorem decode_ascii {s : List Nat} {pos b : Nat} (h : s[pos]? = some b) (hb : b % 256 < 128) : Utf8.decode (bytesOf s) pos = (b % 256, 1) := by
  have hlt : pos < s.length := (List.getElem?_eq_some_iff.1 h).1
  have hg : ((bytesOf s).get! (pos + 0)).toNat = b % 256 := by
    have : s[pos] = b := (List.getElem?_eq_some_iff.1 h).2
    simp [bytesOf, ByteArray.get!, hlt, this]
  unfold Utf8.decode
  simp only [hg]
  rw [if_pos hb]
theorem next_ok {x : SV} {v : Value} {isStr : Bool} {ty : TypeId} (hx : x.val ρ = some v) : OpOk P B ρ (nextM x isStr) (Instr.next v isStr ty) := by
  intro s s' r w hf hs e
  unfold nextM at e
  split at e
  · rename_i n
    simp only [SV.val, Option.map_eq_some_iff] at hx; obtain ⟨p, hp, rfl⟩ := hx
    simp only [MM.run] at e
    cases hc : s.hp.get n with
    | none => simp [hc] at e
    | some ch =>
      simp only [hc] at e
      obtain ⟨q', hq, ⟨o, ho, hob⟩, hM⟩ := hs.own n ch hc
      rw [hp] at hq
      obtain rfl := Option.some.inj hq
      split at e
      · rename_i st pos
        simp only [Chunk.obj] at hob
        subst hob
        have hgo := getObj_it (P := P) ho (by simp)
        cases hb : st[pos]? with
        | none =>
          simp only [hb, MM.run, Option.some.injEq, Prod.mk.injEq] at e
          obtain ⟨rfl, rfl⟩ := e
          have hle : ¬ pos < (bytesOf st).size := by rw [bytesOf_size]; simpa using hb
          exact ⟨_, w, by simp [Instr.next, Place.addr, hgo, hle]; rfl, ρ, Env.le.refl ρ, fun n hn => Or.inl hn, by simp [SV.val, SV.vals], hs⟩
        | some b =>
          simp only [hb] at e
          cases hl : Nat.blt (b % 256) 128 with
          | false => simp [hl, MM.run] at e
          | true =>
            simp only [hl, cond_true, MM.run, hc, Chunk.ro, Bool.or_false, cond_false, Option.some.injEq, Prod.mk.injEq] at e
            obtain ⟨rfl, rfl⟩ := e
            rw [Nat.blt_eq] at hl
            have hlt : pos < (bytesOf st).size := by rw [bytesOf_size]; exact (List.getElem?_eq_some_iff.1 hb).1
            have hdec := decode_ascii hb hl
            have hset := setObj_run (P := P) (o' := .stringIter (bytesOf st) (pos + 1)) ho (by simp)
            have hbut := setObj_but w p.b (.stringIter (bytesOf st) (pos + 1))
            refine ⟨.tuple #[.bool true, goInt pos, .int .i32 ((b % 256 : Nat) : Int)], { w with heap := w.heap.setIfInBounds p.b (.stringIter (bytesOf st) (pos + 1)) }, ?_, ρ, Env.le.refl ρ, fun n hn => Or.inl hn, by simp [SV.val, SV.vals, goInt], ?_⟩
            · simp [Instr.next, Place.addr, hgo, hlt, hdec, hset]
            · exact hs.change (c' := .strIt st (pos + 1)) hc rfl hp hbut.size hbut.tape hbut.os hbut.output hbut.heap rfl ⟨_, setObj_at ho, rfl⟩
      · rename_i since seen last
        obtain ⟨mm, rfl, h1, h2⟩ := hob
        obtain rfl := h2 rfl
        have hgo := getObj_it (P := P) ho (by simp)
        simp only [MM.run, Option.some.injEq, Prod.mk.injEq] at e
        obtain ⟨rfl, rfl⟩ := e
        exact ⟨.tuple #[.bool false], w, by simp [Instr.next, Place.addr, hgo], ρ, Env.le.refl ρ, fun n hn => Or.inl hn, by simp [SV.val, SV.vals], hs⟩
      · rename_i m since seen last
        obtain ⟨mm, rfl, h1, h2⟩ := hob
        obtain ⟨pm, hpm, rfl⟩ := h1 m rfl
        have hgo := getObj_it (P := P) ho (by simp)
        simp only [MM.run] at e
        cases hcm : s.hp.get m with
        | none => simp [hcm] at e
        | some chm =>
          simp only [hcm] at e
          obtain ⟨q', hq, ⟨om, hom, hobm⟩, hMm⟩ := hs.own m chm hcm
          rw [hpm] at hq
          obtain rfl := Option.some.inj hq
          cases chm with
          | map es clock =>
            obtain ⟨arr, rfl, hents⟩ := hobm
            have hgm := getObj_run (P := P) hom
            cases hbad : (!seen.isEmpty && !es.isEmpty && es.all (fun x => decide (x.1 ≥ last))) with
            | true => simp [hbad, MM.run] at e
            | false =>
              simp only [hbad, cond_false] at e
              have hem : arr.isEmpty = es.isEmpty := by
                have := hents.len
                simp only [Array.length_toList] at this
                rw [Bool.eq_iff_iff, Array.isEmpty_iff_size_eq_zero, List.isEmpty_iff_length_eq_zero, this]
              have hall : arr.all (fun x => decide (x.born ≥ last)) = es.all (fun x => decide (x.1 ≥ last)) := by
                rw [← Array.all_toList]
                exact all_ents hents (fun b => decide (b ≥ last))
              have hbad' : (!seen.toArray.isEmpty && !arr.isEmpty && arr.all (fun x => decide (x.born ≥ last))) = false := by
                rw [hem, hall, ← hbad]
                simp
              have hleft := filter_ents hents (fun b => !seen.contains b)
              have hfl : (arr.filter fun e => !seen.toArray.contains e.born).toList = arr.toList.filter (fun e => !seen.contains e.born) := by
                rw [Array.toList_filter]
                simp
              have hbad2 : ¬ ((!seen.toArray.isEmpty && !arr.isEmpty && arr.all (fun x => decide (x.born ≥ last))) = true) := by rw [hbad']; simp
              split at e
              · rename_i hnil
                rw [hnil] at hleft
                simp only [MM.run, Option.some.injEq, Prod.mk.injEq] at e
                obtain ⟨rfl, rfl⟩ := e
                have hl0 : (arr.filter fun e => !seen.toArray.contains e.born) = #[] := by
                  apply Array.ext'
                  rw [hfl]
                  generalize hz : arr.toList.filter (fun e => !seen.contains e.born) = z at hleft
                  cases hleft
                  rfl
                refine ⟨.tuple #[.bool false], w, ?_, ρ, Env.le.refl ρ, fun n hn => Or.inl hn, by simp [SV.val, SV.vals], hs⟩
                simp only [Instr.next, Place.addr, Sem.run_bind, hgo, Result.andThen_ok, hgm]
                rw [if_neg hbad2]
                simp only [hl0]
                simp [Question.forced]
              · rename_i b k v hone
                rw [hone] at hleft
                cases hlt : Nat.blt b since with
                | false => simp [hlt, MM.run] at e
                | true =>
                  simp only [hlt, cond_true, MM.run, hc, Chunk.ro, Bool.or_false, cond_false, Option.some.injEq, Prod.mk.injEq] at e
                  obtain ⟨rfl, rfl⟩ := e
                  rw [Nat.blt_eq] at hlt
                  obtain ⟨en, hen, hb, hk, hv⟩ : ∃ en, arr.toList.filter (fun e => !seen.contains e.born) = [en] ∧ en.born = b ∧ k.val ρ = some en.key ∧ v.val ρ = some en.val := by
                    generalize hz : arr.toList.filter (fun e => !seen.contains e.born) = z at hleft
                    cases hleft with
                    | cons hb hk hv t => cases t; exact ⟨_, rfl, hb, hk, hv⟩
                  have hl1 : (arr.filter fun e => !seen.toArray.contains e.born) = #[en] := by
                    apply Array.ext'
                    rw [hfl, hen]
                  subst hb
                  have hset := setObj_run (P := P) (o' := .mapIter (some pm.b) since (seen ++ [en.born]).toArray clock) ho (by simp)
                  have hbut := setObj_but w p.b (.mapIter (some pm.b) since (seen ++ [en.born]).toArray clock)
                  refine ⟨.tuple #[.bool true, en.key, en.val], { w with heap := w.heap.setIfInBounds p.b (.mapIter (some pm.b) since (seen ++ [en.born]).toArray clock) }, ?_, ρ, Env.le.refl ρ, fun n hn => Or.inl hn, by simp [SV.val, SV.vals, hk, hv], ?_⟩
                  · simp only [Instr.next, Place.addr, Sem.run_bind, hgo, Result.andThen_ok, hgm]
                    rw [if_neg hbad2]
                    simp only [hl1]
                    simp [Question.forced, hlt, hset]
                  · exact hs.change (c' := .mapIt (some m) since (seen ++ [en.born]) clock) hc rfl hp hbut.size hbut.tape hbut.os hbut.output hbut.heap rfl ⟨_, setObj_at ho, some pm.b, by simp, fun n hn => by simp only [Option.some.injEq] at hn; subst hn; exact ⟨pm, hpm, rfl⟩, by simp⟩
              · simp [MM.run] at e
          | _ => simp [MM.run] at e
      · simp [MM.run] at e
  · simp [MM.run] at e
end
end Go.Proofs.YteecpkkgjioplaaDoor

/- Operations on abstract values: all of them. -/
namespace Go.Proofs.YteecpkkgjioplaaDoor
open Go

section
variable {P : Program} {B : Base} {ρ : Env}

def evs (ev : Operand → Option SV) : List Operand → Option (List SV)
  | [] => some []
  | x :: l => match ev x, evs ev l with
    | some a, some r => some (a :: r)
    | _, _ => none
def evParts (ev : Operand → Option SV) : List (Nat × Operand) → Option (List (Nat × SV))
  | [] => some []
  | (i, x) :: l => match ev x, evParts ev l with
    | some a, some r => some ((i, a) :: r)
    | _, _ => none
/-- Operands left out, or their values. -/
def evOpt (ev : Operand → Option SV) : Option Operand → Option (Option SV)
  | none => some none
  | some x => match ev x with
    | some a => some (some a)
    | none => none
/-- What evaluates operands, and what it says. -/
def EvOk (ρ : Env) (ev : Operand → Option SV) (a : Act) : Prop := ∀ x r, ev x = some r → r.val ρ = some (a.eval x)
theorem evs_ok {ev : Operand → Option SV} {a : Act} (h : EvOk ρ ev a) : ∀ {l : List Operand} {r : List SV}, evs ev l = some r → SV.vals ρ r = some (l.map a.eval)
  | [], r, e => by simp only [evs, Option.some.injEq] at e; subst e; rfl
  | x :: l, r, e => by
    simp only [evs] at e
    cases hx : ev x with
    | none => simp [hx] at e
    | some y =>
      cases hl : evs ev l with
      | none => simp [hx, hl] at e
      | some m =>
        simp only [hx, hl, Option.some.injEq] at e
        subst e
        exact SV.vals_mk (h x y hx) (evs_ok h hl)
theorem evParts_ok {ev : Operand → Option SV} {a : Act} (h : EvOk ρ ev a) : ∀ {l : List (Nat × Operand)} {r : List (Nat × SV)}, evParts ev l = some r → Parts ρ r (l.map fun p => (p.1, a.eval p.2))
  | [], r, e => by simp only [evParts, Option.some.injEq] at e; subst e; exact .nil
  | (i, x) :: l, r, e => by
    simp only [evParts] at e
    cases hx : ev x with
    | none => simp [hx] at e
    | some y =>
      cases hl : evParts ev l with
      | none => simp [hx, hl] at e
      | some m =>
        simp only [hx, hl, Option.some.injEq] at e
        subst e
        exact .cons (h x y hx) (evParts_ok h hl)
theorem evOpt_ok {ev : Operand → Option SV} {a : Act} (h : EvOk ρ ev a) {x : Option Operand} {r : Option SV} (e : evOpt ev x = some r) : OVal ρ r (x.map a.eval) := by
  cases x with
  | none => simp only [evOpt, Option.some.injEq] at e; subst e; trivial
  | some x =>
    simp only [evOpt] at e
    cases hx : ev x with
    | none => simp [hx] at e
    | some y =>
      simp only [hx, Option.some.injEq] at e
      subst e
      exact h x y hx

def builtinM (P : Program) (b : Builtin) (ts : Array TypeId) (args : List SV) : MM SV :=
  match b, args with
  | .len, [x] => match ts[0]? with | some t => lenM P t x | none => .fail
  | .append, [s, x] => appendM P ts s x
  | .copy, [d, x] => copyM P ts d x
  | .delete, [m, k] => deleteM P ts m k
  | .max, x :: r => MM.opt (maxS true x r)
  | .min, x :: r => MM.opt (maxS false x r)
  | _, _ => .fail

def opM (P : Program) (ev : Operand → Option SV) (o : Oper) : MM SV :=
  match o.op with
  | .move x => MM.opt (ev x)
  | .assign x => MM.opt (ev x)
  | .pick c a b => match ev c with | some (.bool t) => MM.opt (match t with | true => ev a | false => ev b) | _ => .fail
  | .alloc t => allocM P t
  | .box _ x => match ev x with | some x => boxM x | none => .fail
  | .build t ps => match evParts ev ps.toList with | some l => MM.opt (buildS P t l) | none => .fail
  | .buildSlice t n ps => match evParts ev ps.toList with | some l => buildSliceM P t n l | none => .fail
  | .load t x => match ev x with | some x => loadM P t x | none => .fail
  | .store t x y => match ev x, ev y with | some x, some y => storeM P t x y | _, _ => .fail
  | .nilCheck x => match ev x with | some x => MM.opt (nilS x) | none => .fail
  | .binOp op t x y _ => match ev x, ev y with | some a, some b => MM.opt (binS P op t (isCst x || isCst y) a b) | _, _ => .fail
  | .unOp op _ x => match ev x with | some x => MM.opt (unS op x) | none => .fail
  | .convert s d x => match ev x with | some x => convertM P s d x | none => .fail
  | .makeInterface t x => match ev x with | some x => MM.opt (match P.underlying t with | some (.interface _) => none | some _ => some (.ifc t x) | none => none) | none => .fail
  | .makeFunc f a b => match evs ev a.toList, evs ev b.toList with | some l, some m => MM.opt (some (.fn f l m)) | _, _ => .fail
  | .makeMap t r =>
    match r with
    | none => .new (.map [] 0) fun n => .ret (.mp n)
    | some x => match ev x, P.underlying t with | some (.int _ _), some (.map _ _) => .new (.map [] 0) fun n => .ret (.mp n) | _, _ => .fail
  | .makeSlice t x y => match ev x, ev y with | some x, some y => makeSliceM P t x y | _, _ => .fail
  | .slice t x lo hi mx => match ev x, evOpt ev lo, evOpt ev hi, evOpt ev mx with | some x, some lo, some hi, some mx => sliceM P t x lo hi mx | _, _, _, _ => .fail
  | .fieldAddr t x f => match ev x with | some x => MM.opt (fieldAtS P t x f) | none => .fail
  | .field t x f => match ev x with | some x => MM.opt (fieldS P t x f) | none => .fail
  | .indexAddr t x i => match ev x, ev i with | some x, some i => MM.opt (indexAtS P t x i) | _, _ => .fail
  | .index t x i => match ev x, ev i with | some x, some i => MM.opt (indexS P t x i) | _, _ => .fail
  | .lookup t x k ok => match ev x, ev k with | some x, some k => lookupM P t x k ok | _, _ => .fail
  | .mapUpdate t m k v => match ev m, ev k, ev v with | some m, some k, some v => updateM P t m k v | _, _, _ => .fail
  | .insert t m k v => match ev m, ev k, ev v with | some m, some k, some v => updateM P t m k v | _, _, _ => .fail
  | .range t x => match ev x with | some x => rangeM P t x | none => .fail
  | .next x b => match ev x with | some x => nextM x b | none => .fail
  | .extract x i => match ev x with | some x => MM.opt (extractS x i) | none => .fail
  | .call c =>
    match c.callee with
    | .builtin b => match evs ev c.args.toList with | some l => builtinM P b c.argTypes l | none => .fail
    | _ => .fail
  | _ => .fail

/-- What an operation does, as the machine takes it. -/
def OpN (P : Program) (B : Base) (ρ : Env) (m : MM SV) (sem : Sem Next) : Prop :=
  ∀ (s s' : St) (r : SV) (w : World), (∀ n, s.nm ≤ n → n < s'.nm → ρ n = none) → Sim B ρ s.hp w → m.run s = some (r, s') →
    ∃ nx v w', sem.run P w = .ok nx w' ∧ (nx = .value v ∨ nx = .skip ∧ v = undef) ∧ Out B ρ s.nm s'.nm s'.hp r v w'
theorem OpN.value {m : MM SV} {sem : Sem Value} (h : OpOk P B ρ m sem) : OpN P B ρ m (do pure (.value (← sem))) := by
  intro s s' r w hf hs e
  obtain ⟨v, w', h1, h2⟩ := h s s' r w hf hs e
  exact ⟨.value v, v, w', by simp [h1], Or.inl rfl, h2⟩
theorem OpN.unit {m : MM SV} {sem : Sem Unit} (h : OpOk P B ρ m (do sem; pure undef)) : OpN P B ρ m (do sem; pure .skip) := by
  intro s s' r w hf hs e
  obtain ⟨v, w', h1, h2⟩ := h s s' r w hf hs e
  simp only [Sem.run_bind] at h1 ⊢
  cases hr : sem.run P w with
  | halt x w1 => simp [hr, Result.andThen] at h1
  | ok a w1 =>
    simp only [hr, Result.andThen_ok, Sem.run_pure, Result.ok.injEq] at h1
    obtain ⟨rfl, rfl⟩ := h1
    exact ⟨.skip, undef, w1, by simp, Or.inr ⟨rfl, rfl⟩, h2⟩
theorem OpN.fails {sem : Sem Next} : OpN P B ρ .fail sem := by intro s s' r w _ _ e; simp [MM.run] at e
theorem OpN.ofPure {o : Option SV} {v : Value} (h : ∀ r, o = some r → r.val ρ = some v) : OpN P B ρ (MM.opt o) (pure (.value v)) := by
  intro s s' r w hf hs e
  cases o with
  | none => simp [MM.opt, MM.run] at e
  | some q =>
    simp only [MM.opt, MM.run, Option.some.injEq, Prod.mk.injEq] at e
    obtain ⟨rfl, rfl⟩ := e
    exact ⟨.value v, v, w, rfl, Or.inl rfl, ρ, Env.le.refl ρ, fun n hn => Or.inl hn, h q rfl, hs⟩

theorem map_toArray (l : Array Operand) (f : Operand → Value) : l.map f = (l.toList.map f).toArray := by apply Array.ext'; simp
theorem builtin_ok {b : Builtin} {ts : Array TypeId} {ty : TypeId} {cs : Array Bool} {l : List SV} {vs : List Value} (hl : SV.vals ρ l = some vs) : OpN P B ρ (builtinM P b ts l) (builtin b ts ty cs vs.toArray) := by
  unfold builtinM
  split
  · rename_i x
    obtain ⟨v, r, hv, hr, rfl⟩ := SV.vals_cons hl
    simp only [SV.vals, Option.some.injEq] at hr
    subst hr
    cases ht : ts[0]? with
    | none => exact OpN.fails
    | some t => exact OpN.value (len_ok ht hv)
  · rename_i s x
    obtain ⟨v, r, hv, hr, rfl⟩ := SV.vals_cons hl
    obtain ⟨u, r', hu, hr', rfl⟩ := SV.vals_cons hr
    simp only [SV.vals, Option.some.injEq] at hr'
    subst hr'
    exact OpN.value (append_ok hv hu)
  · rename_i d x
    obtain ⟨v, r, hv, hr, rfl⟩ := SV.vals_cons hl
    obtain ⟨u, r', hu, hr', rfl⟩ := SV.vals_cons hr
    simp only [SV.vals, Option.some.injEq] at hr'
    subst hr'
    exact OpN.value (copy_ok hv hu)
  · rename_i m k
    obtain ⟨v, r, hv, hr, rfl⟩ := SV.vals_cons hl
    obtain ⟨u, r', hu, hr', rfl⟩ := SV.vals_cons hr
    simp only [SV.vals, Option.some.injEq] at hr'
    subst hr'
    exact OpN.value (delete_ok hv hu)
  · rename_i x r
    obtain ⟨v, us, hv, hr, rfl⟩ := SV.vals_cons hl
    refine OpN.value (OpOk.pure fun q hq => ?_)
    obtain ⟨z, h1, h2⟩ := max_ok (P := P) true r x us v q hr hv hq
    exact ⟨z, h1, h2⟩
  · rename_i x r
    obtain ⟨v, us, hv, hr, rfl⟩ := SV.vals_cons hl
    refine OpN.value (OpOk.pure fun q hq => ?_)
    obtain ⟨z, h1, h2⟩ := max_ok (P := P) false r x us v q hr hv hq
    exact ⟨z, h1, h2⟩
  · exact OpN.fails

theorem nil_ok {x y : SV} {v : Value} (hx : x.val ρ = some v) (h : nilS x = some y) : y.val ρ = some v ∧ ((∃ a, v = .pointer (some a)) ∨ ∃ f a b, v = .func (.func f) a b) := by
  unfold nilS at h
  split at h
  · simp only [Option.some.injEq] at h
    subst h
    refine ⟨hx, Or.inl ?_⟩
    simp only [SV.val, Option.map_eq_some_iff] at hx
    obtain ⟨p, _, rfl⟩ := hx
    exact ⟨_, rfl⟩
  · rename_i f a b
    simp only [Option.some.injEq] at h
    subst h
    refine ⟨hx, Or.inr ?_⟩
    simp only [SV.val] at hx
    cases ha : SV.vals ρ a <;> cases hb : SV.vals ρ b <;> simp [ha, hb] at hx
    exact ⟨_, _, _, hx.symm⟩
  · cases h

theorem op_ok {ev : Operand → Option SV} {a : Act} (h : EvOk ρ ev a) (o : Oper) : OpN P B ρ (opM P ev o) (execOp a.eval o) := by
  obtain ⟨dst, op, ty, pos, after, guard⟩ := o
  cases op <;> simp only [opM, execOp]
  case move x => exact OpN.ofPure fun r e => h x r e
  case assign x => exact OpN.ofPure fun r e => h x r e
  case pick c x y =>
    cases hc : ev c with
    | none => exact OpN.fails
    | some t =>
      cases t <;> try exact OpN.fails
      rename_i t
      have hv := h c _ hc
      simp only [SV.val, Option.some.injEq] at hv
      cases t
      · have : (do pure (.value (if (← asBool (a.eval c)) = true then a.eval x else a.eval y)) : Sem Next) = pure (.value (a.eval y)) := by rw [← hv]; rfl
        rw [this]
        exact OpN.ofPure fun r e => h y r e
      · have : (do pure (.value (if (← asBool (a.eval c)) = true then a.eval x else a.eval y)) : Sem Next) = pure (.value (a.eval x)) := by rw [← hv]; rfl
        rw [this]
        exact OpN.ofPure fun r e => h x r e
  case alloc t => exact OpN.value alloc_ok
  case box t x =>
    cases hx : ev x with
    | none => exact OpN.fails
    | some y => exact OpN.value (box_ok (h x y hx))
  case build t ps =>
    cases hx : evParts ev ps.toList with
    | none => exact OpN.fails
    | some l =>
      have : (ps.map fun x => (x.1, a.eval x.2)) = (ps.toList.map fun p => (p.1, a.eval p.2)).toArray := by apply Array.ext'; simp
      rw [this]
      exact OpN.value (build_ok (evParts_ok h hx))
  case buildSlice t n ps =>
    cases hx : evParts ev ps.toList with
    | none => exact OpN.fails
    | some l =>
      have : (ps.map fun x => (x.1, a.eval x.2)) = (ps.toList.map fun p => (p.1, a.eval p.2)).toArray := by apply Array.ext'; simp
      rw [this]
      exact OpN.value (buildSlice_ok (evParts_ok h hx))
  case insert t m k v =>
    cases hm : ev m with
    | none => exact OpN.fails
    | some m' =>
      cases hk : ev k with
      | none => exact OpN.fails
      | some k' =>
        cases hv : ev v with
        | none => exact OpN.fails
        | some v' => exact OpN.unit (update_ok (h m _ hm) (h k _ hk) (h v _ hv))
  case load t x =>
    cases hx : ev x with
    | none => exact OpN.fails
    | some y => exact OpN.value (load_ok (h x y hx))
  case store t x y =>
    cases hx : ev x with
    | none => exact OpN.fails
    | some x' =>
      cases hy : ev y with
      | none => exact OpN.fails
      | some y' => exact OpN.unit (store_ok (h x _ hx) (h y _ hy))
  case nilCheck x =>
    cases hx : ev x with
    | none => exact OpN.fails
    | some y =>
      have hv := h x y hx
      cases hy : nilS y with
      | none => simp only [hy]; exact OpN.fails
      | some z =>
        obtain ⟨h1, h2⟩ := nil_ok hv hy
        simp only [hy]
        rcases h2 with ⟨ad, e⟩ | ⟨f, p, q, e⟩
        · rw [e] at h1 ⊢
          exact OpN.ofPure fun r hr => by simp only [Option.some.injEq] at hr; subst hr; exact h1
        · rw [e] at h1 ⊢
          exact OpN.ofPure fun r hr => by simp only [Option.some.injEq] at hr; subst hr; exact h1
  case binOp op t x y yt =>
    cases hx : ev x with
    | none => exact OpN.fails
    | some x' =>
      cases hy : ev y with
      | none => exact OpN.fails
      | some y' => exact OpN.value (bin_ok x y (h x _ hx) (h y _ hy))
  case unOp op t x =>
    cases hx : ev x with
    | none => exact OpN.fails
    | some y => exact OpN.value (un_ok (h x y hx))
  case convert s d x =>
    cases hx : ev x with
    | none => exact OpN.fails
    | some y => exact OpN.value (convert_ok (h x y hx))
  case makeInterface t x =>
    cases hx : ev x with
    | none => exact OpN.fails
    | some y => exact OpN.value (makeInterface_ok (h x y hx))
  case makeFunc f p q =>
    cases hp : evs ev p.toList with
    | none => exact OpN.fails
    | some l =>
      cases hq : evs ev q.toList with
      | none => exact OpN.fails
      | some m =>
        rw [map_toArray p, map_toArray q]
        exact OpN.value (makeFunc_ok (evs_ok h hp) (evs_ok h hq))
  case makeMap t r =>
    cases r with
    | none => exact OpN.value (makeMap_ok (Or.inl rfl))
    | some x =>
      simp only
      split
      · rename_i k n _ _ hx hu
        have hv := h x _ hx
        simp only [SV.val, Option.some.injEq] at hv
        exact OpN.value (makeMap_ok (Or.inr ⟨⟨_, _, hu⟩, _, _, by rw [Option.map_some, ← hv]⟩))
      · exact OpN.fails
  case makeSlice t x y =>
    cases hx : ev x with
    | none => exact OpN.fails
    | some x' =>
      cases hy : ev y with
      | none => exact OpN.fails
      | some y' => exact OpN.value (makeSlice_ok (h x _ hx) (h y _ hy))
  case slice t x lo hi mx =>
    cases hx : ev x with
    | none => exact OpN.fails
    | some x' =>
      cases hlo : evOpt ev lo with
      | none => exact OpN.fails
      | some lo' =>
        cases hhi : evOpt ev hi with
        | none => exact OpN.fails
        | some hi' =>
          cases hmx : evOpt ev mx with
          | none => exact OpN.fails
          | some mx' => exact OpN.value (slice_ok (h x _ hx) (evOpt_ok h hlo) (evOpt_ok h hhi) (evOpt_ok h hmx))
  case fieldAddr t x f =>
    cases hx : ev x with
    | none => exact OpN.fails
    | some y => exact OpN.value (fieldAt_ok (h x y hx))
  case field t x f =>
    cases hx : ev x with
    | none => exact OpN.fails
    | some y => exact OpN.value (field_ok (h x y hx))
  case indexAddr t x y =>
    cases hx : ev x with
    | none => exact OpN.fails
    | some x' =>
      cases hy : ev y with
      | none => exact OpN.fails
      | some y' => exact OpN.value (indexAt_ok (h x _ hx) (h y _ hy))
  case index t x y =>
    cases hx : ev x with
    | none => exact OpN.fails
    | some x' =>
      cases hy : ev y with
      | none => exact OpN.fails
      | some y' => exact OpN.value (index_ok (h x _ hx) (h y _ hy))
  case lookup t x y ok =>
    cases hx : ev x with
    | none => exact OpN.fails
    | some x' =>
      cases hy : ev y with
      | none => exact OpN.fails
      | some y' => exact OpN.value (lookup_ok (h x _ hx) (h y _ hy))
  case mapUpdate t m k v =>
    cases hm : ev m with
    | none => exact OpN.fails
    | some m' =>
      cases hk : ev k with
      | none => exact OpN.fails
      | some k' =>
        cases hv : ev v with
        | none => exact OpN.fails
        | some v' => exact OpN.unit (update_ok (h m _ hm) (h k _ hk) (h v _ hv))
  case range t x =>
    cases hx : ev x with
    | none => exact OpN.fails
    | some y => exact OpN.value (range_ok (h x y hx))
  case next x b =>
    cases hx : ev x with
    | none => exact OpN.fails
    | some y => exact OpN.value (next_ok (h x y hx))
  case extract x i =>
    cases hx : ev x with
    | none => exact OpN.fails
    | some y => exact OpN.value (extract_ok (h x y hx))
  case call c =>
    obtain ⟨callee, args, ts⟩ := c
    cases callee <;> simp only
    case builtin b =>
      cases hl : evs ev args.toList with
      | none => exact OpN.fails
      | some l =>
        have hb := builtin_ok (P := P) (B := B) (b := b) (ts := ts) (ty := ty) (cs := args.map fun | .const _ => true | _ => false) (evs_ok h hl)
        simp only [resolve, invoke, map_toArray args a.eval]
        exact hb
    all_goals exact OpN.fails
  all_goals exact OpN.fails
end
end Go.Proofs.YteecpkkgjioplaaDoor

/- Regions that draw their order: what is run in the order of the text is what comes of any order. -/
namespace Go.Proofs.YteecpkkgjioplaaDoor
open Go

/-- Which operations stand before each, by the edges that always bind. -/
def befAux (acc : Tr Nat) : List Edge → Nat
  | [] => 0
  | e :: r => (if Region.binds .any e = true then 2 ^ e.on ||| (acc.get e.on).getD 0 else 0) ||| befAux acc r
def befs (acc : Tr Nat) : List Oper → Nat → Tr Nat
  | [], _ => acc
  | o :: r, i => befs (acc.set i (some (befAux acc o.after.toList))) r (i + 1)

def rangeHit (R a b : Nat) : Bool := !(Nat.beq ((R >>> a) % 2 ^ (b - a)) 0)
theorem rangeHit_ok {R a b m : Nat} (h : rangeHit R a b = false) (h1 : a ≤ m) (h2 : m < b) : R.testBit m = false := by
  have h0 : (R >>> a) % 2 ^ (b - a) = 0 := by
    simp only [rangeHit, Bool.not_eq_false'] at h
    exact Nat.eq_of_beq_eq_true h
  have := congrArg (fun x => Nat.testBit x (m - a)) h0
  simp only [Nat.testBit_mod_two_pow, Nat.testBit_shiftRight, Nat.zero_testBit] at this
  rw [show a + (m - a) = m by omega] at this
  simpa [show m - a < b - a by omega] using this

structure Rec where
  i : Nat
  R : Nat
  W : Nat
  a : Nat
  b : Nat
/-- Do two operations, of which neither stands before the other, touch one thing? -/
def clash (p q : Rec) : Bool := !(Nat.beq (p.W &&& q.R) 0) || (!(Nat.beq (p.R &&& q.W) 0) || rangeHit q.R p.a p.b)
theorem and_zero {a b : Nat} (h : (!(Nat.beq (a &&& b) 0)) = false) (m : Nat) : a.testBit m = true → b.testBit m = false := by
  intro ha
  have h0 : a &&& b = 0 := by
    simp only [Bool.not_eq_false'] at h
    exact Nat.eq_of_beq_eq_true h
  have := congrArg (fun x => Nat.testBit x m) h0
  simp only [Nat.testBit_and, Nat.zero_testBit, ha, Bool.true_and] at this
  exact this

/-- What an operation's step is. -/
abbrev Step := Oper → Tm → St → Option (SV × St)
def regD (step : Step) (bf : Tr Nat) : List Oper → Nat → List Rec → Tm → St → Option (Tm × St)
  | [], _, _, tm, s => some (tm, s)
  | o :: r, i, prev, tm, s =>
    match step o tm ⟨s.nm, s.hp, 0, 0⟩ with
    | none => none
    | some (v, s1) =>
      match tm.put o.dst v with
      | none => none
      | some tm1 =>
        bif Nat.beq s1.rd 0 && Nat.beq s1.nm s.nm then regD step bf r (i + 1) prev tm1 ⟨s1.nm, s1.hp, s.rd ||| s1.rd, s.wr ||| s1.wr⟩
        else
          bif prev.all (fun p => ((bf.get i).getD 0).testBit p.i || !clash p ⟨i, s1.rd, s1.wr, s.nm, s1.nm⟩) then
            regD step bf r (i + 1) (⟨i, s1.rd, s1.wr, s.nm, s1.nm⟩ :: prev) tm1 ⟨s1.nm, s1.hp, s.rd ||| s1.rd, s.wr ||| s1.wr⟩
          else none

/-- A run in the order of the text. -/
structure TextRun (step : Step) (ops : Array Oper) (bf : Tr Nat) (lo hi : Nat) where
  T : Nat → Tm
  H : Nat → Hp
  nm : Nat → Nat
  V : Nat → SV
  R : Nat → Nat
  W : Nat → Nat
  step : ∀ i, lo ≤ i → i < hi → ∃ o s1, ops[i]? = some o ∧ step o (T i) ⟨nm i, H i, 0, 0⟩ = some (V i, s1) ∧ s1.nm = nm (i + 1) ∧ s1.hp = H (i + 1) ∧ s1.rd = R i ∧ s1.wr = W i ∧ (T i).put o.dst (V i) = some (T (i + 1))
  apart : ∀ i j, lo ≤ i → i < j → j < hi → ((bf.get j).getD 0).testBit i = true ∨ ((∀ m, (W i).testBit m = true → (R j).testBit m = false) ∧ (∀ m, (R i).testBit m = true → (W j).testBit m = false) ∧ (∀ m, nm i ≤ m → m < nm (i + 1) → (R j).testBit m = false))

theorem regD_run {step : Step} (hloc : ∀ o tm, Loc (step o tm)) {ops : Array Oper} {bf : Tr Nat} {n : Nat} (hn : ops.size = n) : ∀ (l : List Oper) (i : Nat) (prev : List Rec) (tm tm' : Tm) (s s' : St), ops.toList.drop i = l → s.wf → regD step bf l i prev tm s = some (tm', s') →
    s'.wf ∧ ∃ X : TextRun step ops bf i n, X.T i = tm ∧ X.H i = s.hp ∧ X.nm i = s.nm ∧ X.T n = tm' ∧ X.H n = s'.hp ∧ X.nm n = s'.nm ∧
      (∀ p ∈ prev, ∀ j, i ≤ j → j < n → ((bf.get j).getD 0).testBit p.i = true ∨ ((∀ m, p.W.testBit m = true → (X.R j).testBit m = false) ∧ (∀ m, p.R.testBit m = true → (X.W j).testBit m = false) ∧ (∀ m, p.a ≤ m → m < p.b → (X.R j).testBit m = false)))
      ∧ (∃ Rt Wt, s'.rd = s.rd ||| Rt ∧ s'.wr = s.wr ||| Wt ∧ (∀ m, Rt.testBit m = true ↔ ∃ j, i ≤ j ∧ j < n ∧ (X.R j).testBit m = true) ∧ (∀ m, Wt.testBit m = true ↔ ∃ j, i ≤ j ∧ j < n ∧ (X.W j).testBit m = true)) := by
  intro l
  induction l with
  | nil =>
    intro i prev tm tm' s s' hl hw e
    simp only [regD, Option.some.injEq, Prod.mk.injEq] at e
    obtain ⟨rfl, rfl⟩ := e
    have hin : n ≤ i := by
      have := congrArg List.length hl
      simp at this
      omega
    refine ⟨hw, ⟨⟨fun _ => tm, fun _ => s.hp, fun _ => s.nm, fun _ => .nils, fun _ => 0, fun _ => 0, fun j h1 h2 => by omega, fun i' j' h1 h2 h3 => by omega⟩, rfl, rfl, rfl, rfl, rfl, rfl, fun p hp j h1 h2 => by omega, 0, 0, by simp, by simp, fun m => by simp, fun m => by simp⟩⟩
  | cons o r ih =>
    intro i prev tm tm' s s' hl hw e
    have hlen : i < n := by
      have := congrArg List.length hl
      simp at this
      omega
    have hoi : ops[i]? = some o := by
      have := congrArg (fun l => l[0]?) hl
      simpa using this
    have hdrop : ops.toList.drop (i + 1) = r := by
      have := congrArg List.tail hl
      simpa using this
    simp only [regD] at e
    cases hst : step o tm ⟨s.nm, s.hp, 0, 0⟩ with
    | none => simp [hst] at e
    | some vs =>
      obtain ⟨v, s1⟩ := vs
      simp only [hst] at e
      cases hput : tm.put o.dst v with
      | none => simp [hput] at e
      | some tm1 =>
        simp only [hput] at e
        obtain ⟨hw1, R1, W1, T1⟩ := hloc o tm ⟨s.nm, s.hp, 0, 0⟩ v s1 hw hst
        have hR : s1.rd = R1 := by have := T1.rd; simpa using this
        have hW : s1.wr = W1 := by have := T1.wr; simpa using this
        have key : ∀ prev', regD step bf r (i + 1) prev' tm1 ⟨s1.nm, s1.hp, s.rd ||| s1.rd, s.wr ||| s1.wr⟩ = some (tm', s') →
            (∀ p ∈ prev, p ∈ prev' ) →
            ((s1.rd = 0 ∧ s1.nm = s.nm) ∨ (⟨i, s1.rd, s1.wr, s.nm, s1.nm⟩ : Rec) ∈ prev') →
            ((s1.rd = 0 ∧ s1.nm = s.nm) ∨ ∀ p ∈ prev, ((bf.get i).getD 0).testBit p.i = true ∨ clash p ⟨i, s1.rd, s1.wr, s.nm, s1.nm⟩ = false) →
            s'.wf ∧ ∃ X : TextRun step ops bf i n, X.T i = tm ∧ X.H i = s.hp ∧ X.nm i = s.nm ∧ X.T n = tm' ∧ X.H n = s'.hp ∧ X.nm n = s'.nm ∧
              (∀ p ∈ prev, ∀ j, i ≤ j → j < n → ((bf.get j).getD 0).testBit p.i = true ∨ ((∀ m, p.W.testBit m = true → (X.R j).testBit m = false) ∧ (∀ m, p.R.testBit m = true → (X.W j).testBit m = false) ∧ (∀ m, p.a ≤ m → m < p.b → (X.R j).testBit m = false)))
              ∧ (∃ Rt Wt, s'.rd = s.rd ||| Rt ∧ s'.wr = s.wr ||| Wt ∧ (∀ m, Rt.testBit m = true ↔ ∃ j, i ≤ j ∧ j < n ∧ (X.R j).testBit m = true) ∧ (∀ m, Wt.testBit m = true ↔ ∃ j, i ≤ j ∧ j < n ∧ (X.W j).testBit m = true)) := by
          intro prev' e' hsub hme hcl
          obtain ⟨hw', X, x1, x2, x3, x4, x5, x6, x7, Rt, Wt, y1, y2, y3, y4⟩ := ih (i + 1) prev' tm1 tm' ⟨s1.nm, s1.hp, s.rd ||| s1.rd, s.wr ||| s1.wr⟩ s' hdrop hw1 e'
          refine ⟨hw', ⟨⟨fun k => if k = i then tm else X.T k, fun k => if k = i then s.hp else X.H k, fun k => if k = i then s.nm else X.nm k, fun k => if k = i then v else X.V k, fun k => if k = i then s1.rd else X.R k, fun k => if k = i then s1.wr else X.W k, fun k h1 h2 => ?_, fun k j h1 h2 h3 => ?_⟩, ?_, ?_, ?_, ?_, ?_, ?_, fun p hp j h1 h2 => ?_, s1.rd ||| Rt, s1.wr ||| Wt, ?_, ?_, fun m => ?_, fun m => ?_⟩⟩
          · by_cases hk : k = i
            · subst hk
              refine ⟨o, s1, hoi, ?_, ?_, ?_, ?_, ?_, ?_⟩
              · simpa using hst
              · simp [x3]
              · simp [x2]
              · simp
              · simp
              · simpa [x1] using hput
            · obtain ⟨o', s1', z1, z2, z3, z4, z5, z6, z7⟩ := X.step k (by omega) h2
              have hk1 : ¬ k + 1 = i := by omega
              refine ⟨o', s1', z1, ?_, ?_, ?_, ?_, ?_, ?_⟩
              · simpa [hk] using z2
              · simpa [hk1] using z3
              · simpa [hk1] using z4
              · simpa [hk] using z5
              · simpa [hk] using z6
              · simpa [hk, hk1] using z7
          · have hj : ¬ j = i := by omega
            by_cases hk : k = i
            · subst hk
              have hk1 : ¬ k + 1 = k := by omega
              simp only [hj, if_false, if_true, hk1, x3]
              rcases hme with ⟨m1, m2⟩ | hme
              · right
                refine ⟨fun m hm => ?_, fun m hm => ?_, fun m a b => by omega⟩
                · have := T1.sub m (by rw [← hW]; exact hm)
                  rw [← hR, m1] at this
                  simp at this
                · rw [m1] at hm; simp at hm
              · exact x7 _ hme j (by omega) h3
            · have hk1 : ¬ k + 1 = i := by omega
              simp only [hj, hk, hk1, if_false]
              exact X.apart k j (by omega) h2 h3
          · simp
          · simp
          · simp
          · have : ¬ n = i := by omega
            simpa [this] using x4
          · have : ¬ n = i := by omega
            simpa [this] using x5
          · have : ¬ n = i := by omega
            simpa [this] using x6
          · by_cases hj : j = i
            · subst hj
              simp only [if_true]
              rcases hcl with ⟨m1, m2⟩ | hcl
              · right
                refine ⟨fun m _ => by rw [m1]; simp, fun m _ => ?_, fun m _ _ => by rw [m1]; simp⟩
                cases hh : s1.wr.testBit m with
                | false => rfl
                | true =>
                  have := T1.sub m (by rw [← hW]; exact hh)
                  rw [← hR, m1] at this
                  simp at this
              · rcases hcl p hp with h | h
                · exact Or.inl h
                · right
                  simp only [clash, Bool.or_eq_false_iff] at h
                  exact ⟨and_zero h.1, fun m hm => and_zero h.2.1 m hm, fun m a b => rangeHit_ok h.2.2 a b⟩
            · simp only [hj, if_false]
              exact x7 p (hsub p hp) j (by omega) h2
          · rw [y1]; simp [Nat.or_assoc]
          · rw [y2]; simp [Nat.or_assoc]
          · simp only [Nat.testBit_or, Bool.or_eq_true, y3]
            constructor
            · rintro (h | ⟨j, a, b, c⟩)
              · exact ⟨i, Nat.le_refl _, hlen, by simpa using h⟩
              · exact ⟨j, by omega, b, by rw [if_neg (by omega)]; exact c⟩
            · rintro ⟨j, a, b, c⟩
              by_cases hj : j = i
              · left; simpa [hj] using c
              · right; exact ⟨j, by omega, b, by rw [if_neg hj] at c; exact c⟩
          · simp only [Nat.testBit_or, Bool.or_eq_true, y4]
            constructor
            · rintro (h | ⟨j, a, b, c⟩)
              · exact ⟨i, Nat.le_refl _, hlen, by simpa using h⟩
              · exact ⟨j, by omega, b, by rw [if_neg (by omega)]; exact c⟩
            · rintro ⟨j, a, b, c⟩
              by_cases hj : j = i
              · left; simpa [hj] using c
              · right; exact ⟨j, by omega, b, by rw [if_neg hj] at c; exact c⟩
        cases hq : (Nat.beq s1.rd 0 && Nat.beq s1.nm s.nm) with
        | true =>
          simp only [hq, cond_true] at e
          simp only [Bool.and_eq_true] at hq
          have q1 := Nat.eq_of_beq_eq_true hq.1
          have q2 := Nat.eq_of_beq_eq_true hq.2
          exact key prev e (fun p hp => hp) (Or.inl ⟨q1, q2⟩) (Or.inl ⟨q1, q2⟩)
        | false =>
          simp only [hq, cond_false] at e
          cases hall : prev.all (fun p => ((bf.get i).getD 0).testBit p.i || !clash p ⟨i, s1.rd, s1.wr, s.nm, s1.nm⟩) with
          | false => simp [hall] at e
          | true =>
            simp only [hall, cond_true] at e
            rw [List.all_eq_true] at hall
            exact key _ e (fun p hp => List.mem_cons_of_mem _ hp) (Or.inr (List.mem_cons_self)) (Or.inr fun p hp => by
              have := hall p hp
              simp only [Bool.or_eq_true, Bool.not_eq_true'] at this
              exact this)
end Go.Proofs.YteecpkkgjioplaaDoor

/- Regions that draw their order, proved. -/
namespace Go.Proofs.YteecpkkgjioplaaDoor
open Go

/-- The order of a region's operations is well told, and what stands free of it touches other slots. -/
def regionOk (ops : Array Oper) (bf : Tr Nat) : Bool :=
  (List.range ops.size).all fun j =>
    match ops[j]? with
    | some oj => Nat.beq ((bf.get j).getD 0) (befAux bf oj.after.toList) && (oj.after.toList.all (fun e => !Region.binds .any e || Nat.blt e.on j) &&
        (List.range j).all fun i => ((bf.get j).getD 0).testBit i || (match ops[i]? with | some oi => oi.apart ops oj | none => true))
    | none => true

theorem befAux_bit {bf : Tr Nat} {i : Nat} : ∀ (l : List Edge), (befAux bf l).testBit i = true → ∃ e ∈ l, Region.binds .any e = true ∧ (i = e.on ∨ ((bf.get e.on).getD 0).testBit i = true)
  | [], h => by simp [befAux] at h
  | e :: l, h => by
    simp only [befAux, Nat.testBit_or, Bool.or_eq_true] at h
    rcases h with h | h
    · split at h
      · rename_i hb
        simp only [Nat.testBit_or, bit_pow, Bool.or_eq_true, decide_eq_true_eq] at h
        exact ⟨e, List.mem_cons_self, hb, h.imp (fun e => e.symm) id⟩
      · simp at h
    · obtain ⟨e', h1, h2⟩ := befAux_bit l h
      exact ⟨e', List.mem_cons_of_mem _ h1, h2⟩

section
variable {P : Program} {B : Base} {step : Step} {ops : Array Oper} {bf : Tr Nat} {n : Nat}

/-- Listed with whatever binds it. -/
def Down (ops : Array Oper) (listed : Nat → Bool) : Prop := ∀ j oj, ops[j]? = some oj → listed j = true → ∀ e ∈ oj.after.toList, Region.binds .any e = true → listed e.on = true
theorem down_bit (hn : ops.size = n) (hok : regionOk ops bf = true) {listed : Nat → Bool} (hd : Down ops listed) {i : Nat} : ∀ j, j < n → ((bf.get j).getD 0).testBit i = true → listed j = true → listed i = true := by
  intro j
  induction j using Nat.strongRecOn with
  | _ j ih =>
    intro hj hb hl
    simp only [regionOk, List.all_eq_true, List.mem_range, hn] at hok
    have hk := hok j hj
    have hoj : ops[j]? = some ops[j] := Array.getElem?_eq_getElem (by omega)
    simp only [hoj, Bool.and_eq_true] at hk
    obtain ⟨h1, h2, _⟩ := hk
    rw [Nat.eq_of_beq_eq_true h1] at hb
    obtain ⟨e, he, hbe, hc⟩ := befAux_bit _ hb
    have hlt : e.on < j := by
      have := List.all_eq_true.1 h2 e he
      simp only [hbe, Bool.not_true, Bool.false_or, Nat.blt_eq] at this
      exact this
    have hle := hd j _ hoj hl e he hbe
    rcases hc with rfl | hc
    · exact hle
    · exact ih e.on hlt (by omega) hc hle

/-- What is known when some of the operations have been done. -/
structure Mid (B : Base) (X : TextRun step ops bf 0 n) (ρ0 : Env) (d0 : List Deferred) (listed : Nat → Bool) (ρ : Env) (tm : Tm) (hp : Hp) (a : Act) (w : World) : Prop where
  sim : Sim B ρ hp w
  rel : TmRel ρ tm a
  defers : a.defers = d0
  le : Env.le ρ0 ρ
  dom : ∀ m, ρ m ≠ none → ρ0 m ≠ none ∨ (X.nm 0 ≤ m ∧ m < X.nm n)
  sz : tm.sz = (X.T 0).sz
  heap : ∀ m k, k ≤ n → (∀ i, i < n → (X.W i).testBit m = true ∨ (X.nm i ≤ m ∧ m < X.nm (i + 1)) → (i < k ↔ listed i = true)) → hp.get m = (X.H k).get m
  slots : ∀ t k, k ≤ n → (∀ i o, i < n → ops[i]? = some o → o.dst = some t → (i < k ↔ listed i = true)) → tm.tr.get t = (X.T k).tr.get t
  fresh : ∀ i, i < n → listed i = false → ∀ m, X.nm i ≤ m → m < X.nm (i + 1) → ρ m = none

theorem TextRun.told (X : TextRun step ops bf 0 n) (hloc : ∀ o tm, Loc (step o tm)) (hwf : ∀ m, X.nm 0 ≤ m → (X.H 0).get m = none) : ∀ k, k ≤ n → (∀ m, X.nm k ≤ m → (X.H k).get m = none) ∧
    ∀ i, i < k → ∃ o s1, ops[i]? = some o ∧ step o (X.T i) ⟨X.nm i, X.H i, 0, 0⟩ = some (X.V i, s1) ∧ s1.nm = X.nm (i + 1) ∧ s1.hp = X.H (i + 1) ∧ (X.T i).put o.dst (X.V i) = some (X.T (i + 1)) ∧
      Told (step o (X.T i)) ⟨X.nm i, X.H i, 0, 0⟩ (X.V i) s1 (X.R i) (X.W i) := by
  intro k
  induction k with
  | zero => intro _; exact ⟨hwf, fun i hi => by omega⟩
  | succ k ih =>
    intro hk
    obtain ⟨h1, h2⟩ := ih (by omega)
    obtain ⟨o, s1, e1, e2, e3, e4, e5, e6, e7⟩ := X.step k (Nat.zero_le _) (by omega)
    obtain ⟨hw, R, W, T⟩ := hloc o (X.T k) ⟨X.nm k, X.H k, 0, 0⟩ (X.V k) s1 h1 e2
    have hR : R = X.R k := by rw [← e5]; have := T.rd; simpa using this.symm
    have hW : W = X.W k := by rw [← e6]; have := T.wr; simpa using this.symm
    subst hR; subst hW
    refine ⟨fun m hm => ?_, fun i hi => ?_⟩
    · rw [← e4]; exact hw m (by rw [e3]; exact hm)
    · rcases Nat.lt_succ_iff_lt_or_eq.1 hi with hi | rfl
      · exact h2 i hi
      · exact ⟨o, s1, e1, e2, e3, e4, e7, T⟩

theorem TextRun.mono (X : TextRun step ops bf 0 n) (hloc : ∀ o tm, Loc (step o tm)) (hwf : ∀ m, X.nm 0 ≤ m → (X.H 0).get m = none) : ∀ i j, i ≤ j → j ≤ n → X.nm i ≤ X.nm j := by
  intro i j hij
  induction hij with
  | refl => intro _; exact Nat.le_refl _
  | @step j _ ih =>
    intro hj
    obtain ⟨o, s1, e1, e2, e3, e4, e5, T⟩ := (X.told hloc hwf (j + 1) hj).2 j (by omega)
    have := T.nm
    rw [e3] at this
    exact Nat.le_trans (ih (by omega)) this
/-- Nobody between writes it. -/
theorem TextRun.same (X : TextRun step ops bf 0 n) (hloc : ∀ o tm, Loc (step o tm)) (hwf : ∀ m, X.nm 0 ≤ m → (X.H 0).get m = none) (m : Nat) : ∀ i j, i ≤ j → j ≤ n → (∀ k, i ≤ k → k < j → (X.W k).testBit m = false ∧ ¬ (X.nm k ≤ m ∧ m < X.nm (k + 1))) → (X.H j).get m = (X.H i).get m := by
  intro i j hij
  induction hij with
  | refl => intro _ _; rfl
  | @step j hij ih =>
    intro hj h
    obtain ⟨o, s1, e1, e2, e3, e4, e5, T⟩ := (X.told hloc hwf (j + 1) hj).2 j (by omega)
    obtain ⟨h1, h2⟩ := h j hij (by omega)
    have := T.keep m h1 (by rw [e3]; exact h2)
    rw [e4] at this
    rw [this]
    exact ih (by omega) fun k a b => h k a (by omega)
theorem TextRun.sameT (X : TextRun step ops bf 0 n) (t : Nat) : ∀ i j, i ≤ j → j ≤ n → (∀ k o, i ≤ k → k < j → ops[k]? = some o → o.dst ≠ some t) → (X.T j).tr.get t = (X.T i).tr.get t := by
  intro i j hij
  induction hij with
  | refl => intro _ _; rfl
  | @step j hij ih =>
    intro hj h
    obtain ⟨o, s1, e1, e2, e3, e4, e5, e6, e7⟩ := X.step j (Nat.zero_le _) (by omega)
    have hd := h j o hij (by omega) e1
    rw [← ih (by omega) fun k o a b => h k o a (by omega)]
    cases hdst : o.dst with
    | none => rw [hdst] at e7; simp only [Tm.put, Option.some.injEq] at e7; rw [← e7]
    | some d =>
      rw [hdst] at e7 hd
      simp only [Tm.put, Tm.set] at e7
      cases hb : Nat.blt d (X.T j).sz with
      | false => simp [hb] at e7
      | true =>
        simp only [hb, cond_true, Option.some.injEq] at e7
        rw [← e7]
        simp only
        rw [Tr.get_set, if_neg (fun e => hd (by rw [e]))]
theorem TextRun.szT (X : TextRun step ops bf 0 n) : ∀ j, j ≤ n → (X.T j).sz = (X.T 0).sz := by
  intro j
  induction j with
  | zero => intro _; rfl
  | succ j ih =>
    intro hj
    obtain ⟨o, s1, e1, e2, e3, e4, e5, e6, e7⟩ := X.step j (Nat.zero_le _) (by omega)
    rw [← ih (by omega)]
    cases hdst : o.dst with
    | none => rw [hdst] at e7; simp only [Tm.put, Option.some.injEq] at e7; rw [← e7]
    | some d =>
      rw [hdst] at e7
      simp only [Tm.put, Tm.set] at e7
      cases hb : Nat.blt d (X.T j).sz with
      | false => simp [hb] at e7
      | true =>
        simp only [hb, cond_true, Option.some.injEq] at e7
        rw [← e7]

def StepCongr (step : Step) (ops : Array Oper) : Prop := ∀ o tm tm' s, tm.sz = tm'.sz → (∀ t ∈ o.looksAt ops, tm.tr.get t = tm'.tr.get t) → step o tm s = step o tm' s
def StepOk (P : Program) (gl : Nat → Option Nat) (step : Step) (ops : Array Oper) : Prop := ∀ (B : Base), B.gl = gl → ∀ (i : Nat) (o : Oper) (tm : Tm) (s s1 : St) (v : SV) (ρ : Env) (a : Act) (w : World), ops[i]? = some o → s.wf → step o tm s = some (v, s1) →
  (∀ m, s.nm ≤ m → m < s1.nm → ρ m = none) → Sim B ρ s.hp w → TmRel ρ tm a → ∀ (K : Act → World → Prop) (Q : Exit → Act → World → Prop),
    (∀ u w', Out B ρ s.nm s1.nm s1.hp v u w' → K (a.put o.dst u) w') → wpOp P ops Q i K a w
end
/-- Names of a range, struck. -/
def Tr.cut {α : Type} (t : Tr α) (a : Nat) : Nat → Tr α
  | 0 => t
  | k + 1 => (t.cut a k).set (a + k) none
theorem Tr.get_cut {α : Type} (t : Tr α) (a m : Nat) : ∀ k, (t.cut a k).get m = if a ≤ m ∧ m < a + k then none else t.get m
  | 0 => by simp only [Tr.cut]; rw [if_neg (by omega)]
  | k + 1 => by
    simp only [Tr.cut]
    rw [Tr.get_set, Tr.get_cut t a m k]
    by_cases h : m = a + k
    · rw [if_pos h, if_pos (by omega)]
    · rw [if_neg h]
      by_cases h' : a ≤ m ∧ m < a + k
      · rw [if_pos h', if_pos (by omega)]
      · rw [if_neg h', if_neg (by omega)]
/-- The world as it stands, and what a heap owns in it. -/
def Base.at (B : Base) (ρ : Env) (hp : Hp) (w : World) : Base := ⟨w, fun k => ∃ m c p, hp.get m = some c ∧ c.ro = false ∧ ρ m = some p ∧ p.b = k, B.gl⟩
theorem Sim.at {B : Base} {ρ : Env} {hp hpc : Hp} {w : World} (h : Sim B ρ hp w) (hsub : ∀ m c, hpc.get m = some c → hp.get m = some c) : Sim (B.at ρ hpc w) ρ hpc w := by
  refine ⟨Nat.le_refl _, rfl, rfl, rfl, fun _ _ _ => rfl, fun n c hc => ?_, h.gl, fun n m c d p q hc hd hro hrd hp hq e => h.inj n m c d p q (hsub n c hc) (hsub m d hd) hro hrd hp hq e⟩
  obtain ⟨p, h1, h2, h3, h4⟩ := h.own n c (hsub n c hc)
  refine ⟨p, h1, h2, fun hro _ => ⟨n, c, p, hc, hro, h1, rfl⟩, fun hro => ⟨h.lt (hsub n c hc) h1, ?_⟩⟩
  rintro ⟨m, c', p', hc', hro', hp', e⟩
  obtain ⟨q1, q2⟩ := h4 hro
  obtain ⟨p'', e1, _, e3, _⟩ := h.own m c' (hsub m c' hc')
  rw [hp'] at e1
  obtain rfl := Option.some.inj e1
  exact q2 (e ▸ e3 hro' (e ▸ q1))
/-- What was not handed over stays as it was. -/
theorem Sim.back {B : Base} {ρ ρ' : Env} {hp hpc hp1 hp' : Hp} {w w' : World} (h : Sim B ρ hp w) (hle : Env.le ρ ρ') (hsub : ∀ m c, hpc.get m = some c → hp.get m = some c) (h1 : Sim (B.at ρ hpc w) ρ' hp1 w')
    (hro1 : ∀ m c, hp1.get m = some c → c.ro = true → hpc.get m = some c)
    (hm : ∀ m c, hp'.get m = some c → hp1.get m = some c ∨ (hp.get m = some c ∧ hpc.get m = none)) : Sim B ρ' hp' w' := by
  have hfr : ∀ k, k < w.heap.size → ¬ (B.at ρ hpc w).M k → w'.heap[k]? = w.heap[k]? := h1.frame
  have hM : ∀ k, k < B.w0.heap.size → (B.at ρ hpc w).M k → B.M k := by
    rintro k hk ⟨m, c, p, hc, hro, hp, rfl⟩
    obtain ⟨q, hq, _, hMq, _⟩ := h.own m c (hsub _ _ hc)
    rw [hp] at hq
    obtain rfl := Option.some.inj hq
    exact hMq hro hk
  have hother : ∀ m c p, hp.get m = some c → hpc.get m = none → ρ m = some p → p.b < w.heap.size ∧ ¬ (B.at ρ hpc w).M p.b := by
    intro m c p hc hn hp
    refine ⟨h.lt hc hp, ?_⟩
    intro hMM
    cases hcr : c.ro with
    | false =>
      obtain ⟨m', c', p', hc', hro', hp', e⟩ := hMM
      have := h.inj m' m c' c p' p (hsub _ _ hc') hc hro' hcr hp' hp e
      subst this
      rw [hn] at hc'
      cases hc'
    | true =>
      obtain ⟨q, e1, _, _, e4⟩ := h.own m c hc
      rw [hp] at e1
      obtain rfl := Option.some.inj e1
      obtain ⟨g1, g2⟩ := e4 hcr
      exact g2 (hM _ g1 hMM)
  have hsz : w.heap.size ≤ w'.heap.size := h1.size
  refine ⟨Nat.le_trans h.size hsz, h1.tape.trans h.tape, h1.os.trans h.os, h1.output.trans h.output, fun k hk hnm => ?_, fun m c hc => ?_, fun g m hg => ?_, fun m m' c c' p p' hc hc' hro hro' hpm hpm' e => ?_⟩
  · rw [hfr k (Nat.lt_of_lt_of_le hk h.size) (fun hh => hnm (hM k hk hh))]
    exact h.frame k hk hnm
  · rcases hm m c hc with hc1 | ⟨hc0, hcn⟩
    · obtain ⟨p, e1, e2, e3, e4⟩ := h1.own m c hc1
      refine ⟨p, e1, e2, fun hro hlt => hM p.b hlt (e3 hro (Nat.lt_of_lt_of_le hlt h.size)), fun hro => ?_⟩
      obtain ⟨q, f1, _, _, f4⟩ := h.own m c (hsub _ _ (hro1 m c hc1 hro))
      have := hle _ _ f1
      rw [e1] at this
      obtain rfl := Option.some.inj this
      exact f4 hro
    · obtain ⟨p, e1, ⟨o, ho, hob⟩, e3, e4⟩ := h.own m c hc0
      obtain ⟨hlt, hnM⟩ := hother m c p hc0 hcn e1
      exact ⟨p, hle _ _ e1, ⟨o, by rw [hfr _ hlt hnM]; exact ho, Chunk.obj_le hle hob⟩, e3, e4⟩
  · obtain ⟨z, hz⟩ := h.gl g m hg
    exact ⟨z, hle _ _ hz⟩
  · have key : ∀ a b ca cb pa pb, hp1.get a = some ca → hp.get b = some cb → hpc.get b = none → ca.ro = false → ρ' a = some pa → ρ' b = some pb → pa.b = pb.b → False := by
      intro a b ca cb pa pb ha hb hbn hra hpa hpb e
      obtain ⟨q, e1, _⟩ := h.own b cb hb
      have : pb = q := by have := hle _ _ e1; rw [hpb] at this; exact Option.some.inj this
      subst this
      obtain ⟨hlt, hnM⟩ := hother b cb pb hb hbn e1
      obtain ⟨q, f1, _, f3, _⟩ := h1.own a ca ha
      rw [hpa] at f1
      obtain rfl := Option.some.inj f1
      exact hnM (e ▸ f3 hra (e ▸ hlt))
    rcases hm m c hc with hc1 | ⟨hc0, hcn⟩
    · rcases hm m' c' hc' with hc1' | ⟨hc0', hcn'⟩
      · exact h1.inj m m' c c' p p' hc1 hc1' hro hro' hpm hpm' e
      · exact (key m m' c c' p p' hc1 hc0' hcn' hro hpm hpm' e).elim
    · rcases hm m' c' hc' with hc1' | ⟨hc0', hcn'⟩
      · exact (key m' m c' c p' p hc1' hc0 hcn hro' hpm' hpm e.symm).elim
      · obtain ⟨q, e1, _⟩ := h.own m c hc0
        obtain ⟨q', f1, _⟩ := h.own m' c' hc0'
        have h3 := hle _ _ e1
        have h4 := hle _ _ f1
        rw [hpm] at h3
        rw [hpm'] at h4
        obtain rfl := Option.some.inj h3
        obtain rfl := Option.some.inj h4
        exact h.inj m m' c c' p p' hc0 hc0' hro hro' e1 f1 e
end Go.Proofs.YteecpkkgjioplaaDoor

/- Regions that draw their order: any order does what the text's does. -/
namespace Go.Proofs.YteecpkkgjioplaaDoor
open Go

section
variable {P : Program} {B : Base} {step : Step} {ops : Array Oper} {bf : Tr Nat} {n : Nat}

/-- Two operations of which the second is ready touch nothing in common that matters. -/
theorem ordered (_X : TextRun step ops bf 0 n) (hn : ops.size = n) (hok : regionOk ops bf = true) {listed : Nat → Bool} (hd : Down ops listed) {i j : Nat} (hi : i < n) (hj : j < n) (hlj : listed j = false)
    (hrj : ∀ oj, ops[j]? = some oj → ∀ e ∈ oj.after.toList, Region.binds .any e = true → listed e.on = true)
    (hc : (i < j ∧ ((bf.get j).getD 0).testBit i = true) ∨ (j < i ∧ ((bf.get i).getD 0).testBit j = true)) : (i < j ↔ listed i = true) := by
  have hd' : Down ops (fun k => listed k || decide (k = j)) := by
    intro k ok hk hl e he hb
    simp only [Bool.or_eq_true, decide_eq_true_eq] at hl ⊢
    rcases hl with hl | rfl
    · exact Or.inl (hd k ok hk hl e he hb)
    · exact Or.inl (hrj ok hk e he hb)
  rcases hc with ⟨h1, h2⟩ | ⟨h1, h2⟩
  · have := down_bit hn hok hd' j hj h2 (by simp)
    simp only [Bool.or_eq_true, decide_eq_true_eq] at this
    exact ⟨fun _ => this.resolve_right (by omega), fun _ => h1⟩
  · constructor
    · intro h; omega
    · intro h
      have := down_bit hn hok hd i hi h2 h
      rw [hlj] at this
      cases this

theorem drawn_step (X : TextRun step ops bf 0 n) (hn : ops.size = n) (hok : regionOk ops bf = true) (hloc : ∀ o tm, Loc (step o tm)) (hcg : StepCongr step ops) (hso : StepOk P B.gl step ops)
    (hwf : ∀ m, X.nm 0 ≤ m → (X.H 0).get m = none) {ρ0 : Env} {d0 : List Deferred} {listed : Nat → Bool} (hd : Down ops listed) {ρ : Env} {tm : Tm} {hp : Hp} {a : Act} {w : World} (M : Mid B X ρ0 d0 listed ρ tm hp a w)
    {j : Nat} (hj : j < n) (hlj : listed j = false) (hrj : ∀ oj, ops[j]? = some oj → ∀ e ∈ oj.after.toList, Region.binds .any e = true → listed e.on = true)
    {K : Act → World → Prop} {Q : Exit → Act → World → Prop} (hK : ∀ ρ' tm' hp' a' w', Mid B X ρ0 d0 (fun k => listed k || decide (k = j)) ρ' tm' hp' a' w' → K a' w') : wpOp P ops Q j K a w := by
  obtain ⟨_, htold⟩ := X.told hloc hwf n (Nat.le_refl _)
  obtain ⟨oj, s1, e1, e2, e3, e4, e5, T⟩ := htold j hj
  have hmono := X.mono hloc hwf
  have hord := @ordered step ops bf n X hn hok listed hd
  -- whoever is bound to j, or touches what it touches
  have hpair : ∀ i, i < n → i ≠ j → (((i < j ∧ ((bf.get j).getD 0).testBit i = true) ∨ (j < i ∧ ((bf.get i).getD 0).testBit j = true)) ∨
      ((∀ oi, ops[i]? = some oi → oi.apart ops oj = true ∨ oj.apart ops oi = true) ∧ (∀ m, (X.W i).testBit m = true → (X.R j).testBit m = false) ∧ (∀ m, (X.R i).testBit m = true → (X.W j).testBit m = false) ∧ (i < j → ∀ m, X.nm i ≤ m → m < X.nm (i + 1) → (X.R j).testBit m = false))) := by
    intro i hi hne
    rcases Nat.lt_or_gt_of_ne hne with h | h
    · by_cases hb : ((bf.get j).getD 0).testBit i = true
      · exact Or.inl (Or.inl ⟨h, hb⟩)
      · right
        have hap := (X.apart i j (Nat.zero_le _) h hj).resolve_left hb
        refine ⟨fun oi hoi => ?_, hap.1, hap.2.1, fun _ => hap.2.2⟩
        simp only [regionOk, List.all_eq_true, List.mem_range, hn] at hok
        have := hok j hj
        simp only [e1, Bool.and_eq_true, List.all_eq_true, List.mem_range] at this
        have := this.2.2 i h
        simp only [Bool.or_eq_true, hoi] at this
        exact Or.inl (this.resolve_left hb)
    · by_cases hb : ((bf.get i).getD 0).testBit j = true
      · exact Or.inl (Or.inr ⟨h, hb⟩)
      · right
        have hap := (X.apart j i (Nat.zero_le _) h hi).resolve_left hb
        refine ⟨fun oi hoi => ?_, fun m hm => ?_, fun m hm => ?_, fun h' => by omega⟩
        · simp only [regionOk, List.all_eq_true, List.mem_range, hn] at hok
          have := hok i hi
          simp only [hoi, Bool.and_eq_true, List.all_eq_true, List.mem_range] at this
          have := this.2.2 j h
          simp only [Bool.or_eq_true, e1] at this
          exact Or.inr (this.resolve_left hb)
        · cases hh : (X.R j).testBit m with
          | false => rfl
          | true => rw [hap.2.1 m hh] at hm; cases hm
        · cases hh : (X.W j).testBit m with
          | false => rfl
          | true => rw [hap.1 m hh] at hm; cases hm
  -- what j reads is what it reads in the text's order
  have hread : ∀ m, (X.R j).testBit m = true → m < X.nm j → hp.get m = (X.H j).get m := by
    intro m hm hlt
    refine M.heap m j (by omega) fun i hi hw => ?_
    by_cases hne : i = j
    · subst hne; simp [hlj]
    · rcases hpair i hi hne with h | ⟨_, h1, _, h3⟩
      · exact hord hi hj hlj hrj h
      · exfalso
        rcases hw with hw | hw
        · rw [h1 m hw] at hm; cases hm
        · rcases Nat.lt_or_gt_of_ne hne with h | h
          · rw [h3 h m hw.1 hw.2] at hm; cases hm
          · have := hmono j i (by omega) (by omega); omega
  have hslot : ∀ t, (∀ i oi, i < n → i ≠ j → ops[i]? = some oi → oi.dst = some t → oi.apart ops oj = true ∨ oj.apart ops oi = true → False) → tm.tr.get t = (X.T j).tr.get t := by
    intro t ht
    refine M.slots t j (by omega) fun i oi hi hoi hdst => ?_
    by_cases hne : i = j
    · subst hne; simp [hlj]
    · rcases hpair i hi hne with h | ⟨h1, _⟩
      · exact hord hi hj hlj hrj h
      · exact (ht i oi hi hne hoi hdst (h1 oi hoi)).elim
  have hlooks : ∀ t ∈ oj.looksAt ops, tm.tr.get t = (X.T j).tr.get t := by
    intro t ht
    refine hslot t fun i oi _ _ _ hdst hap => ?_
    rcases hap with hap | hap
    · exact (Oper.apart_spec hap).1 t hdst ht
    · exact (Oper.apart_spec hap).2.2 t hdst ht
  have hsz : tm.sz = (X.T j).sz := by rw [M.sz, X.szT j (by omega)]
  obtain ⟨s2', f1, f2, f3, f4, f5, f6⟩ := T.again ⟨X.nm j, hp, 0, 0⟩ rfl (fun m hm hl => hread m hm hl)
  rw [e3] at f2 f5 f6
  rw [← hcg oj tm (X.T j) _ hsz hlooks] at f1
  -- the heap of the names that are older than the operation's own
  obtain ⟨hpc, hcut⟩ : ∃ hpc : Hp, ∀ m, hpc.get m = if X.nm j ≤ m then none else hp.get m := by
    refine ⟨hp.cut (X.nm j) (X.nm n - X.nm j), fun m => ?_⟩
    rw [Tr.get_cut]
    by_cases h1 : X.nm j ≤ m
    · rw [if_pos h1]
      by_cases h2 : m < X.nm n
      · rw [if_pos (by have := hmono j n (by omega) (Nat.le_refl _); omega)]
      · rw [if_neg (by have := hmono j n (by omega) (Nat.le_refl _); omega)]
        have h0 : X.nm 0 ≤ m := Nat.le_trans (hmono 0 j (Nat.zero_le _) (by omega)) h1
        rw [M.heap m 0 (Nat.zero_le _) fun i hi hw => ?_]
        · exact hwf m h0
        · exfalso
          obtain ⟨oi, si, i1, i2, i3, i4, i5, Ti⟩ := htold i hi
          have hni := hmono (i + 1) n (by omega) (Nat.le_refl _)
          rcases hw with hw | hw
          · have := Ti.low m (Ti.sub m hw)
            omega
          · omega
    · rw [if_neg h1, if_neg (by omega)]
  have hsub : ∀ m c, hpc.get m = some c → hp.get m = some c := fun m c h => by
    rw [hcut] at h
    split at h
    · cases h
    · exact h
  have hwfc : St.wf ⟨X.nm j, hpc, 0, 0⟩ := fun m hm => by simp only at hm ⊢; rw [hcut, if_pos hm]
  obtain ⟨s3, f1c, f2c, f3c, f4c, f5c, f6c⟩ := T.again ⟨X.nm j, hpc, 0, 0⟩ rfl (fun m hm hl => by
    simp only at hl ⊢
    rw [hcut, if_neg (by omega)]
    exact hread m hm hl)
  rw [e3] at f2c f5c f6c
  rw [← hcg oj tm (X.T j) _ hsz hlooks] at f1c
  obtain ⟨_, Rc, Wc, Tc⟩ := hloc oj tm _ _ _ hwfc f1c
  refine hso (B.at ρ hpc w) rfl j oj tm _ s3 (X.V j) ρ a w e1 hwfc f1c (fun m h1 h2 => M.fresh j hj hlj m h1 (by rw [← f2c]; exact h2)) (M.sim.at hsub) M.rel K Q fun u w' ho => ?_
  obtain ⟨ρ', g1, g2, g3, g4c⟩ := ho
  simp only [f2c] at g2
  have g4 : Sim B ρ' s2'.hp w' := by
    refine M.sim.back g1 hsub g4c Tc.ro fun m c hc => ?_
    by_cases hwm : (X.W j).testBit m = true ∨ (X.nm j ≤ m ∧ m < X.nm (j + 1))
    · left
      rw [f5c m hwm, ← f5 m hwm]
      exact hc
    · have hw0 : (X.W j).testBit m = false := by
        cases hb : (X.W j).testBit m with
        | false => rfl
        | true => exact absurd (Or.inl hb) hwm
      have hfr0 : ¬ (X.nm j ≤ m ∧ m < X.nm (j + 1)) := fun h => hwm (Or.inr h)
      have h6 := f6 m hw0 hfr0
      simp only at h6
      rw [h6] at hc
      by_cases hlt : X.nm j ≤ m
      · exact Or.inr ⟨hc, by rw [hcut, if_pos hlt]⟩
      · left
        rw [f6c m hw0 hfr0]
        simp only
        rw [hcut, if_neg hlt]
        exact hc
  -- the slot
  obtain ⟨tm', ht', htr⟩ : ∃ tm', tm.put oj.dst (X.V j) = some tm' ∧ ∀ t, tm'.tr.get t = if oj.dst = some t then some (X.V j) else tm.tr.get t := by
    cases hdst : oj.dst with
    | none => exact ⟨tm, rfl, fun t => by simp⟩
    | some d =>
      rw [hdst] at e5
      simp only [Tm.put, Tm.set] at e5 ⊢
      rw [hsz]
      cases hb : Nat.blt d (X.T j).sz with
      | false => simp [hb] at e5
      | true =>
        refine ⟨⟨(X.T j).sz, tm.tr.set d (some (X.V j))⟩, by simp, fun t => ?_⟩
        simp only
        rw [Tr.get_set]
        by_cases h : t = d
        · subst h; simp
        · rw [if_neg h, if_neg (by simpa using fun e => h e.symm)]
  have htj : ∀ t, (X.T (j + 1)).tr.get t = if oj.dst = some t then some (X.V j) else (X.T j).tr.get t := by
    intro t
    cases hdst : oj.dst with
    | none => rw [hdst] at e5; simp only [Tm.put, Option.some.injEq] at e5; rw [← e5]; simp
    | some d =>
      rw [hdst] at e5
      simp only [Tm.put, Tm.set] at e5
      cases hb : Nat.blt d (X.T j).sz with
      | false => simp [hb] at e5
      | true =>
        simp only [hb, cond_true, Option.some.injEq] at e5
        rw [← e5]
        simp only
        rw [Tr.get_set]
        by_cases h : t = d
        · subst h; simp
        · rw [if_neg h, if_neg (by simpa using fun e => h e.symm)]
  have hsz' : tm'.sz = tm.sz := by
    cases hdst : oj.dst with
    | none => rw [hdst] at ht'; simp only [Tm.put, Option.some.injEq] at ht'; rw [← ht']
    | some d =>
      rw [hdst] at ht'
      simp only [Tm.put, Tm.set] at ht'
      cases hb : Nat.blt d tm.sz with
      | false => simp [hb] at ht'
      | true => simp only [hb, cond_true, Option.some.injEq] at ht'; rw [← ht']
  refine hK ρ' tm' s2'.hp _ w' ⟨g4, (M.rel.le g1).put g3 ht', ?_, M.le.trans g1, fun m hm => ?_, by rw [hsz']; exact M.sz, fun m k hk hw => ?_, fun t k hk hw => ?_, fun i hi hli m h1 h2 => ?_⟩
  · rw [← M.defers]; cases oj.dst <;> rfl
  · rcases g2 m hm with h | h
    · exact M.dom m h
    · exact Or.inr ⟨Nat.le_trans (hmono 0 j (Nat.zero_le _) (by omega)) h.1, Nat.lt_of_lt_of_le h.2 (hmono (j + 1) n (by omega) (Nat.le_refl _))⟩
  · by_cases hwj : (X.W j).testBit m = true ∨ (X.nm j ≤ m ∧ m < X.nm (j + 1))
    · have hjk : j < k := (hw j hj hwj).2 (by simp)
      rw [f5 m hwj, e4]
      refine (X.same hloc hwf m (j + 1) k (by omega) hk fun i h1 h2 => ?_).symm
      -- a writer between would have to stand behind j
      have hin : i < n := by omega
      have hne : i ≠ j := by omega
      refine Classical.byContradiction fun hcon => ?_
      have hwi : (X.W i).testBit m = true ∨ (X.nm i ≤ m ∧ m < X.nm (i + 1)) := by
        rcases hb : (X.W i).testBit m with _ | _
        · right
          refine Classical.byContradiction fun h => hcon ⟨hb, h⟩
        · exact Or.inl rfl
      have hli : listed i = true := by
        have := (hw i hin hwi).1 h2
        simpa [hne] using this
      rcases hpair i hin hne with h | ⟨_, p1, p2, p3⟩
      · have := hord hin hj hlj hrj h
        have := this.2 hli
        omega
      · rcases hwj with hwj | hwj
        · have hRj := T.sub m hwj
          rcases hwi with hwi | hwi
          · rw [p1 m hwi] at hRj; cases hRj
          · have := T.low m hRj
            rw [e3] at this
            have := hmono (j + 1) i (by omega) (by omega)
            omega
        · rcases hwi with hwi | hwi
          · -- i writes a name that j has made
            obtain ⟨oi, si, i1, i2, i3, i4, i5, Ti⟩ := htold i hin
            exact Classical.byContradiction fun _ => by
              have hap := X.apart j i (Nat.zero_le _) (by omega) hin
              rcases hap with hap | hap
              · have := hord hin hj hlj hrj (Or.inr ⟨by omega, hap⟩)
                have := this.2 hli
                omega
              · have := hap.2.2 m hwj.1 hwj.2
                rw [Ti.sub m hwi] at this
                cases this
          · have := hmono (j + 1) i (by omega) (by omega)
            omega
    · rw [f6 m (by cases hb : (X.W j).testBit m with | false => rfl | true => exact absurd (Or.inl hb) hwj) (fun h => hwj (Or.inr h))]
      refine M.heap m k hk fun i hi hwi => ?_
      have hne : i ≠ j := fun e => hwj (e ▸ hwi)
      have := hw i hi hwi
      simpa [hne] using this
  · rw [htr]
    by_cases hdj : oj.dst = some t
    · rw [if_pos hdj]
      have hjk : j < k := (hw j oj hj e1 hdj).2 (by simp)
      rw [X.sameT t (j + 1) k (by omega) hk fun i oi h1 h2 hoi hdi => ?_, htj, if_pos hdj]
      have hin : i < n := by omega
      have hne : i ≠ j := by omega
      have hli : listed i = true := by
        have := (hw i oi hin hoi hdi).1 h2
        simpa [hne] using this
      rcases hpair i hin hne with h | ⟨p1, _⟩
      · have := (hord hin hj hlj hrj h).2 hli
        omega
      · rcases p1 oi hoi with hap | hap
        · exact (Oper.apart_spec hap).2.1 t hdi hdj
        · exact (Oper.apart_spec hap).2.1 t hdj hdi
    · rw [if_neg hdj]
      refine M.slots t k hk fun i oi hi hoi hdi => ?_
      have hne : i ≠ j := fun e => hdj (by subst e; rw [e1] at hoi; cases hoi; exact hdi)
      have := hw i oi hi hoi hdi
      simpa [hne] using this
  · simp only [Bool.or_eq_false_iff, decide_eq_false_iff_not] at hli
    cases hh : ρ' m with
    | none => rfl
    | some p =>
      rcases g2 m (by rw [hh]; simp) with h | h
      · exact absurd (M.fresh i hi hli.1 m h1 h2) h
      · exfalso
        rcases Nat.lt_or_gt_of_ne hli.2 with h' | h'
        · have := hmono (i + 1) j (by omega) (by omega); omega
        · have := hmono (j + 1) i (by omega) (by omega); omega
end
end Go.Proofs.YteecpkkgjioplaaDoor

/- Regions, whole. -/
namespace Go.Proofs.YteecpkkgjioplaaDoor
open Go

section
variable {P : Program} {B : Base} {step : Step} {ops : Array Oper} {bf : Tr Nat} {n : Nat}

def lst (listed : Array Bool) : Nat → Bool := fun i => listed.getD i false
theorem lst_set {listed : Array Bool} {j : Nat} (hj : j < listed.size) : lst (listed.setIfInBounds j true) = fun k => lst listed k || decide (k = j) := by
  funext k
  simp only [lst, Array.getD_eq_getD_getElem?, Array.getElem?_setIfInBounds]
  by_cases h : j = k
  · subst h; simp [hj]
  · simp [h, Ne.symm h]
theorem ready_mem {listed : Array Bool} {i : Nat} (hs : listed.size = ops.size) : i ∈ Region.ready .any ops listed ↔ i < ops.size ∧ lst listed i = false ∧ ∀ oi, ops[i]? = some oi → ∀ e ∈ oi.after.toList, Region.binds .any e = true → lst listed e.on = true := by
  simp only [Region.ready, List.mem_filter, List.mem_range]
  refine and_congr_right fun hi => ?_
  have ho : ops[i]? = some ops[i] := Array.getElem?_eq_getElem hi
  have hl : listed.getD i true = lst listed i := by simp [lst, Array.getD_eq_getD_getElem?, hs, hi]
  simp only [ho, Option.map_some, Option.getD_some, Bool.and_eq_true, hl, Bool.not_eq_true', Option.some.injEq, forall_eq']
  refine and_congr_right fun _ => ?_
  rw [← Array.all_toList, List.all_eq_true]
  refine forall_congr' fun e => forall_congr' fun he => ?_
  simp only [Bool.or_eq_true, Bool.not_eq_true', lst]
  cases Region.binds .any e <;> simp

def cnt (listed : Array Bool) (n : Nat) : Nat := ((List.range n).filter fun i => !lst listed i).length
theorem cnt_set {listed : Array Bool} {j n : Nat} (hj : j < listed.size) (hn : j < n) (hl : lst listed j = false) : cnt (listed.setIfInBounds j true) n < cnt listed n := by
  unfold cnt
  have : ((List.range n).filter fun i => !lst (listed.setIfInBounds j true) i) = ((List.range n).filter fun i => !lst listed i).filter fun i => !decide (i = j) := by
    rw [List.filter_filter, lst_set hj]
    congr 1
    funext k
    by_cases hk : lst listed k = true
    · simp [hk]
    · simp [hk]
  rw [this]
  refine List.length_filter_lt_length_iff_exists.2 ⟨j, ?_, by simp⟩
  simp [hn, hl]

theorem drawn_any (X : TextRun step ops bf 0 n) (hn : ops.size = n) (hok : regionOk ops bf = true) (hloc : ∀ o tm, Loc (step o tm)) (hcg : StepCongr step ops) (hso : StepOk P B.gl step ops)
    (hwf : ∀ m, X.nm 0 ≤ m → (X.H 0).get m = none) {ρ0 : Env} {d0 : List Deferred} {Q : Exit → Act → World → Prop}
    (hQ : ∀ listed ρ tm hp a w, (∀ i, i < n → listed i = true) → Mid B X ρ0 d0 listed ρ tm hp a w → Q .normal a w) :
    ∀ (fuel : Nat) (listed : Array Bool) (ρ : Env) (tm : Tm) (hp : Hp) (a : Act) (w : World), listed.size = n → cnt listed n ≤ fuel → Down ops (lst listed) → Mid B X ρ0 d0 (lst listed) ρ tm hp a w → wpAny P .any ops Q fuel listed a w := by
  -- where none is ready all are done
  have hend : ∀ listed : Array Bool, listed.size = n → Region.ready .any ops listed = [] → ∀ i, i < n → lst listed i = true := by
    intro listed hs hr i
    induction i using Nat.strongRecOn with
    | _ i ih =>
      intro hi
      cases hl : lst listed i with
      | true => rfl
      | false =>
        exfalso
        have : i ∈ Region.ready .any ops listed := by
          rw [ready_mem (by rw [hs, hn])]
          refine ⟨by omega, hl, fun oi hoi e he hb => ?_⟩
          have hk := hok
          simp only [regionOk, List.all_eq_true, List.mem_range, hn] at hk
          have h2 := hk i hi
          simp only [hoi, Bool.and_eq_true, List.all_eq_true] at h2
          have h3 := h2.2.1 e he
          simp only [hb, Bool.not_true, Bool.false_or, Nat.blt_eq] at h3
          exact ih e.on h3 (by omega)
        rw [hr] at this
        cases this
  intro fuel
  induction fuel with
  | zero =>
    intro listed ρ tm hp a w hs hc hd M
    have hall : ∀ i, i < n → lst listed i = true := by
      intro i hi
      have h0 : cnt listed n = 0 := by omega
      unfold cnt at h0
      rw [List.length_eq_zero_iff, List.filter_eq_nil_iff] at h0
      have := h0 i (List.mem_range.2 hi)
      simpa using this
    refine ⟨?_, hQ _ ρ tm hp a w hall M⟩
    rw [List.eq_nil_iff_forall_not_mem]
    intro i hi
    rw [ready_mem (by rw [hs, hn])] at hi
    have := hall i (by omega)
    rw [hi.2.1] at this
    cases this
  | succ fuel ih =>
    intro listed ρ tm hp a w hs hc hd M
    refine ⟨fun hr => hQ _ ρ tm hp a w (hend listed hs hr) M, fun j hj => ?_⟩
    rw [ready_mem (by rw [hs, hn])] at hj
    obtain ⟨h1, h2, h3⟩ := hj
    have hjn : j < n := by omega
    refine drawn_step X hn hok hloc hcg hso hwf hd M hjn h2 h3 fun ρ' tm' hp' a' w' M' => ?_
    have hset := lst_set (listed := listed) (j := j) (by omega)
    refine ih (listed.setIfInBounds j true) ρ' tm' hp' a' w' (by simpa using hs) ?_ ?_ (by rw [hset]; exact M')
    · have := cnt_set (n := n) (by omega : j < listed.size) hjn h2
      omega
    · rw [hset]
      intro k ok hk hl e he hb
      simp only [Bool.or_eq_true, decide_eq_true_eq] at hl ⊢
      rcases hl with hl | rfl
      · exact Or.inl (hd k ok hk hl e he hb)
      · exact Or.inl (h3 ok hk e he hb)

/-- A region that draws its order does what it does in the order of the text. -/
theorem region_draw {id : Nat} (hm : P.follows .mixedOrders = true) (hok : regionOk ops bf = true) (hloc : ∀ o tm, Loc (step o tm)) (hcg : StepCongr step ops) (hso : StepOk P B.gl step ops)
    {tm tm' : Tm} {s s' : St} (hwf : s.wf) (h : regD step bf ops.toList 0 [] tm s = some (tm', s')) {ρ : Env} {a : Act} {w : World} (hf : ∀ m, s.nm ≤ m → m < s'.nm → ρ m = none) (hs : Sim B ρ s.hp w) (ht : TmRel ρ tm a)
    {Q : Exit → Act → World → Prop} (hQ : ∀ ρ' a' w', Env.le ρ ρ' → (∀ m, ρ' m ≠ none → ρ m ≠ none ∨ (s.nm ≤ m ∧ m < s'.nm)) → Sim B ρ' s'.hp w' → TmRel ρ' tm' a' → a'.defers = a.defers → Q .normal a' w') :
    (Code.region id ops true).wp P Q a w := by
  obtain ⟨hw', X, x1, x2, x3, x4, x5, x6, _, _⟩ := regD_run hloc (rfl : ops.size = ops.size) ops.toList 0 [] tm tm' s s' (by simp) hwf h
  have hwfX : ∀ m, X.nm 0 ≤ m → (X.H 0).get m = none := fun m hm => by rw [x2]; exact hwf m (by rw [← x3]; exact hm)
  have hmono := X.mono hloc hwfX
  refine wp_region_any hm ?_
  have hl0 : lst (Array.replicate ops.size false) = fun _ => false := by
    funext i
    simp only [lst, Array.getD_eq_getD_getElem?]
    rw [Array.getElem?_replicate]
    split <;> rfl
  refine drawn_any X rfl hok hloc hcg hso hwfX (ρ0 := ρ) (d0 := a.defers) (fun listed ρ' tm1 hp1 a' w' hall M => ?_) ops.size _ ρ tm s.hp a _ (by simp) ?_ (by rw [hl0]; intro j oj _ h; cases h) ?_
  · have hh : ∀ m, s'.hp.get m = hp1.get m := fun m => by
      rw [← x5]
      exact (M.heap m ops.size (Nat.le_refl _) fun i hi _ => ⟨fun _ => hall i hi, fun _ => hi⟩).symm
    have htt : ∀ t, tm'.tr.get t = tm1.tr.get t := fun t => by
      rw [← x4]
      exact (M.slots t ops.size (Nat.le_refl _) fun i o hi _ _ => ⟨fun _ => hall i hi, fun _ => hi⟩).symm
    refine hQ ρ' a' w' M.le (fun m hm => ?_) (M.sim.congr hh) ⟨?_, fun i x hx => M.rel.get i x (by rw [← htt]; exact hx)⟩ M.defers
    · have := M.dom m hm
      rw [x3, x6] at this
      exact this
    · rw [M.rel.sz, M.sz, ← x4, X.szT _ (Nat.le_refl _)]
  · unfold cnt
    exact Nat.le_trans (List.length_filter_le _ _) (by simp)
  · rw [hl0]
    have hnoW : ∀ (m k : Nat), k ≤ ops.size → (∀ i, i < ops.size → (X.W i).testBit m = true ∨ (X.nm i ≤ m ∧ m < X.nm (i + 1)) → (i < k ↔ false = true)) → s.hp.get m = (X.H k).get m := by
      intro m k hk hw
      rw [X.same hloc hwfX m 0 k (Nat.zero_le _) hk fun i h1 h2 => ?_, x2]
      refine ⟨?_, fun hc => ?_⟩
      · cases hb : (X.W i).testBit m with
        | false => rfl
        | true =>
          have := (hw i (by omega) (Or.inl hb)).1 h2
          cases this
      · have := (hw i (by omega) (Or.inr hc)).1 h2
        cases this
    refine ⟨hs.drew _, ht, rfl, Env.le.refl ρ, fun m hm => Or.inl hm, by rw [x1], hnoW, fun t k hk hw => ?_, fun i hi _ m h1 h2 => ?_⟩
    · rw [X.sameT t 0 k (Nat.zero_le _) hk fun i o h1 h2 hoi hdi => ?_, x1]
      have := (hw i o (by omega) hoi hdi).1 h2
      cases this
    · refine hf m ?_ ?_
      · rw [← x3]; exact Nat.le_trans (hmono 0 i (Nat.zero_le _) (by omega)) h1
      · rw [← x6]; exact Nat.lt_of_lt_of_le h2 (hmono (i + 1) ops.size (by omega) (Nat.le_refl _))

/-- A region in the order of the text. -/
def regE (step : Step) : List Oper → Tm → St → Option (Tm × St)
  | [], tm, s => some (tm, s)
  | o :: r, tm, s =>
    match step o tm s with
    | none => none
    | some (v, s1) =>
      match tm.put o.dst v with
      | none => none
      | some tm1 => regE step r tm1 s1
theorem regE_ok (hloc : ∀ o tm, Loc (step o tm)) (hso : StepOk P B.gl step ops) {Q : Exit → Act → World → Prop} : ∀ (l : List Oper) (i : Nat) (tm tm' : Tm) (s s' : St) (ρ : Env) (a : Act) (w : World), ops.toList.drop i = l → s.wf → regE step l tm s = some (tm', s') →
    (∀ m, s.nm ≤ m → m < s'.nm → ρ m = none) → Sim B ρ s.hp w → TmRel ρ tm a →
    (∀ ρ' a' w', Env.le ρ ρ' → (∀ m, ρ' m ≠ none → ρ m ≠ none ∨ (s.nm ≤ m ∧ m < s'.nm)) → Sim B ρ' s'.hp w' → TmRel ρ' tm' a' → a'.defers = a.defers → Q .normal a' w') →
    s.nm ≤ s'.nm ∧ s'.wf ∧ wpOps P ops Q (List.range' i l.length) a w := by
  intro l
  induction l with
  | nil =>
    intro i tm tm' s s' ρ a w hl hw e hf hs ht hQ
    simp only [regE, Option.some.injEq, Prod.mk.injEq] at e
    obtain ⟨rfl, rfl⟩ := e
    refine ⟨Nat.le_refl _, hw, ?_⟩
    simp only [List.length_nil, List.range'_zero, wpOps]
    exact hQ ρ a w (Env.le.refl ρ) (fun m hm => Or.inl hm) hs ht rfl
  | cons o r ih =>
    intro i tm tm' s s' ρ a w hl hw e hf hs ht hQ
    have hoi : ops[i]? = some o := by
      have := congrArg (fun l => l[0]?) hl
      simpa using this
    have hdrop : ops.toList.drop (i + 1) = r := by
      have := congrArg List.tail hl
      simpa using this
    simp only [regE] at e
    cases hst : step o tm s with
    | none => simp [hst] at e
    | some vs =>
      obtain ⟨v, s1⟩ := vs
      simp only [hst] at e
      cases hput : tm.put o.dst v with
      | none => simp [hput] at e
      | some tm1 =>
        simp only [hput] at e
        obtain ⟨hw1, R1, W1, T1⟩ := hloc o tm s v s1 hw hst
        have hle1 := T1.nm
        -- the rest's numbers, by a walk whose end says nothing
        have hrest : s1.nm ≤ s'.nm ∧ s'.wf := by
          clear ih hQ hs ht hf hdrop hl hoi
          clear hst hput T1 hle1 hw
          induction r generalizing tm1 s1 with
          | nil =>
            simp only [regE, Option.some.injEq, Prod.mk.injEq] at e
            obtain ⟨rfl, rfl⟩ := e
            exact ⟨Nat.le_refl _, hw1⟩
          | cons o' r' ih' =>
            simp only [regE] at e
            cases hst : step o' tm1 s1 with
            | none => simp [hst] at e
            | some vs =>
              obtain ⟨v', s2⟩ := vs
              simp only [hst] at e
              cases hput : tm1.put o'.dst v' with
              | none => simp [hput] at e
              | some tm2 =>
                simp only [hput] at e
                obtain ⟨hw2, R2, W2, T2⟩ := hloc o' tm1 s1 v' s2 hw1 hst
                have := ih' (s1 := s2) (tm1 := tm2) (hw1 := hw2) (e := e)
                exact ⟨Nat.le_trans T2.nm this.1, this.2⟩
        refine ⟨Nat.le_trans hle1 hrest.1, hrest.2, ?_⟩
        simp only [List.length_cons, List.range'_succ]
        rw [wpOps_cons]
        refine hso B rfl i o tm s s1 v ρ a w hoi hw hst (fun m h1 h2 => hf m h1 (Nat.lt_of_lt_of_le h2 hrest.1)) hs ht _ Q fun u w' ho => ?_
        obtain ⟨ρ', g1, g2, g3, g4⟩ := ho
        refine (ih (i + 1) tm1 tm' s1 s' ρ' (a.put o.dst u) w' hdrop hw1 e (fun m h1 h2 => ?_) g4 ((ht.le g1).put g3 hput) fun ρ'' a' w'' k1 k2 k3 k4 k5 => ?_).2.2
        · cases hh : ρ' m with
          | none => rfl
          | some p =>
            rcases g2 m (by rw [hh]; simp) with h | h
            · exact absurd (hf m (by omega) h2) h
            · omega
        · refine hQ ρ'' a' w'' (g1.trans k1) (fun m hm => ?_) k3 k4 (by rw [k5]; cases o.dst <;> rfl)
          rcases k2 m hm with h | h
          · rcases g2 m h with h | h
            · exact Or.inl h
            · exact Or.inr ⟨h.1, by omega⟩
          · exact Or.inr ⟨by omega, h.2⟩
theorem region_text {id : Nat} (hloc : ∀ o tm, Loc (step o tm)) (hso : StepOk P B.gl step ops)
    {tm tm' : Tm} {s s' : St} (hwf : s.wf) (h : regE step ops.toList tm s = some (tm', s')) {ρ : Env} {a : Act} {w : World} (hf : ∀ m, s.nm ≤ m → m < s'.nm → ρ m = none) (hs : Sim B ρ s.hp w) (ht : TmRel ρ tm a)
    {Q : Exit → Act → World → Prop} (hQ : ∀ ρ' a' w', Env.le ρ ρ' → (∀ m, ρ' m ≠ none → ρ m ≠ none ∨ (s.nm ≤ m ∧ m < s'.nm)) → Sim B ρ' s'.hp w' → TmRel ρ' tm' a' → a'.defers = a.defers → Q .normal a' w') :
    (Code.region id ops false).wp P Q a w := by
  have := (regE_ok (P := P) (B := B) hloc hso ops.toList 0 tm tm' s s' ρ a w (by simp) hwf h hf hs ht hQ).2.2
  refine wp_region ?_
  rw [List.range_eq_range']
  simpa using this
end
end Go.Proofs.YteecpkkgjioplaaDoor

/- One operation of a function's code; that it hangs on its operands alone. -/
namespace Go.Proofs.YteecpkkgjioplaaDoor
open Go

/-- A called function's run. -/
abbrev CallE := FuncId → List SV → St → Option (SV × St)

/-- Is an operation done, by its guard? -/
def wantedS (ops : Array Oper) (tm : Tm) (o : Oper) : Option Bool :=
  match o.guard with
  | none => some true
  | some (j, want) =>
    match (ops[j]?).bind (·.dst) with
    | some t =>
      match tm.tr.get t with
      | some (.bool b) => some (b == want)
      | some (.tup _) => some false
      | _ => none
    | none => none
def stepS (P : Program) (gl : Nat → Option Nat) (call : CallE) (ops : Array Oper) : Step := fun o tm s =>
  match wantedS ops tm o with
  | none => none
  | some false => some (.tup [], s)
  | some true =>
    match o.op with
    | .call ⟨.value f, args, _⟩ =>
      match evO gl tm f, evs (evO gl tm) args.toList with
      | some (.fn (.func g) first cap), some l => call g (first ++ l ++ cap) s
      | _, _ => none
    | _ => (opM P (evO gl tm) o).run s

theorem wanted_ok {ρ : Env} {tm : Tm} {a : Act} {ops : Array Oper} {o : Oper} {b : Bool} (ht : TmRel ρ tm a) (h : wantedS ops tm o = some b) : Region.wanted o (yielded ops a.tmps) = b := by
  unfold wantedS at h
  unfold Region.wanted
  split at h
  · rename_i hg
    simp only [hg, Option.some.injEq] at h ⊢
    exact h
  · rename_i j want hg
    simp only [hg]
    split at h
    · rename_i t htt
      split at h
      · rename_i b' hb
        simp only [Option.some.injEq] at h
        obtain ⟨v, h1, h2⟩ := ht.get t _ hb
        simp only [SV.val, Option.some.injEq] at h2
        subst h2
        simp only [yielded, htt, Option.bind_some, h1]
        rw [← h]
        cases b' <;> cases want <;> rfl
      · rename_i l hb
        simp only [Option.some.injEq] at h
        obtain ⟨v, h1, h2⟩ := ht.get t _ hb
        simp only [SV.val, Option.map_eq_some_iff] at h2
        obtain ⟨vs, _, rfl⟩ := h2
        simp only [yielded, htt, Option.bind_some, h1]
        rw [← h]
        cases want <;> rfl
      · cases h
    · cases h

section congr
theorem evs_congr {ev ev' : Operand → Option SV} : ∀ {l : List Operand}, (∀ x ∈ l, ev x = ev' x) → evs ev l = evs ev' l
  | [], _ => rfl
  | x :: l, h => by simp only [evs, h x (by simp), evs_congr (l := l) fun y hy => h y (by simp [hy])]
theorem evParts_congr {ev ev' : Operand → Option SV} : ∀ {l : List (Nat × Operand)}, (∀ x ∈ l, ev x.2 = ev' x.2) → evParts ev l = evParts ev' l
  | [], _ => rfl
  | (i, x) :: l, h => by simp only [evParts, h (i, x) (by simp), evParts_congr (l := l) fun y hy => h y (by simp [hy])]
theorem evOpt_congr {ev ev' : Operand → Option SV} {x : Option Operand} (h : ∀ y ∈ x.toArray, ev y = ev' y) : evOpt ev x = evOpt ev' x := by
  cases x with
  | none => rfl
  | some x => simp only [evOpt, h x (by simp)]
theorem opM_congr {P : Program} {ev ev' : Operand → Option SV} (o : Oper) (h : ∀ x ∈ o.op.operands, ev x = ev' x) : opM P ev o = opM P ev' o := by
  obtain ⟨dst, op, ty, pos, after, guard⟩ := o
  cases op <;> simp only [Op.operands] at h <;> simp only [opM]
  case build t ps =>
    rw [evParts_congr fun x hx => h x.2 (by simp only [List.mem_toArray, List.mem_map]; exact ⟨x, hx, rfl⟩)]
  case buildSlice t n ps =>
    rw [evParts_congr fun x hx => h x.2 (by simp only [List.mem_toArray, List.mem_map]; exact ⟨x, hx, rfl⟩)]
  case makeFunc f p q =>
    rw [evs_congr fun x hx => h x (by simp at hx ⊢; exact Or.inl hx), evs_congr (l := q.toList) fun x hx => h x (by simp at hx ⊢; exact Or.inr hx)]
  case makeMap t r =>
    cases r with
    | none => rfl
    | some x => simp only [h x (by simp)]
  case slice t x lo hi mx =>
    rw [h x (by simp), evOpt_congr (x := lo) fun y hy => h y (by simp at hy ⊢; simp [hy]), evOpt_congr (x := hi) fun y hy => h y (by simp at hy ⊢; simp [hy]), evOpt_congr (x := mx) fun y hy => h y (by simp at hy ⊢; simp [hy])]
  case call c =>
    obtain ⟨callee, args, ts⟩ := c
    cases callee <;> simp only
    rw [evs_congr fun x hx => h x (by simp [Call.operands] at hx ⊢; exact hx)]
  all_goals first
    | rfl
    | (simp at h; simp only [h])
theorem evO_congr {gl : Nat → Option Nat} {tm tm' : Tm} {x : Operand} (h : ∀ t, x = .tmp t → tm.tr.get t = tm'.tr.get t) : evO gl tm x = evO gl tm' x := by
  cases x <;> simp only [evO]
  exact h _ rfl
end congr

theorem stepS_congr {P : Program} {gl : Nat → Option Nat} {call : CallE} {ops : Array Oper} : StepCongr (stepS P gl call ops) ops := by
  intro o tm tm' s _ h
  have hop : ∀ x ∈ o.op.operands, evO gl tm x = evO gl tm' x := fun x hx => evO_congr fun t e => h t (by
    subst e
    exact List.mem_append_left _ (List.mem_filterMap.2 ⟨.tmp t, by simpa using hx, rfl⟩))
  have hw : wantedS ops tm o = wantedS ops tm' o := by
    unfold wantedS
    cases hg : o.guard with
    | none => rfl
    | some jw =>
      obtain ⟨j, want⟩ := jw
      simp only
      cases ht : (ops[j]?).bind (·.dst) with
      | none => rfl
      | some t =>
        simp only
        rw [h t (by
          refine List.mem_append_right _ ?_
          simp [hg, ht])]
  simp only [stepS, hw, opM_congr o hop]
  cases wantedS ops tm' o with
  | none => rfl
  | some b =>
    cases b with
    | false => rfl
    | true =>
      simp only
      split
      · rename_i f args ts hc
        rw [hc] at hop
        rw [hop f (by simp [Op.operands, Call.operands]), evs_congr fun x hx => hop x (by simp [Op.operands, Call.operands] at hx ⊢; exact Or.inr hx)]
      · rfl
theorem stepS_loc {P : Program} {gl : Nat → Option Nat} {call : CallE} {ops : Array Oper} (hc : ∀ f l, Loc (call f l)) (o : Oper) (tm : Tm) : Loc (stepS P gl call ops o tm) := by
  unfold stepS
  cases wantedS ops tm o with
  | none => exact Loc.fail
  | some b =>
    cases b with
    | false => exact Loc.pure _
    | true =>
      simp only
      split
      · split
        · exact hc _ _
        · exact Loc.fail
      · exact MM.loc _

/-- What a called function's run says of the machine. -/
def CallOk (P : Program) (gl : Nat → Option Nat) (call : CallE) : Prop := ∀ (B : Base), B.gl = gl → ∀ (f : FuncId) (l : List SV) (s s' : St) (r : SV) (vs : List Value) (ρ : Env) (w : World), s.wf → call f l s = some (r, s') → SV.vals ρ l = some vs →
  (∀ m, s.nm ≤ m → m < s'.nm → ρ m = none) → Sim B ρ s.hp w →
  (callFunc f vs.toArray).run P w = .ok (.enter f vs.toArray) w ∧ Calls P f vs.toArray w fun e w' => ∃ v, e = .returned v ∧ Out B ρ s.nm s'.nm s'.hp r v w'
end Go.Proofs.YteecpkkgjioplaaDoor

/- A function's code, run over abstract values; what that says of the machine. -/
namespace Go.Proofs.YteecpkkgjioplaaDoor
open Go

section
variable {P : Program}

theorem stepS_ok {gl : Nat → Option Nat} {call : CallE} {ops : Array Oper} (hc : CallOk P gl call) : StepOk P gl (stepS P gl call ops) ops := by
  intro B hgl i o tm s s1 v ρ a w hoi hwf hst hf hs ht K Q hK
  subst hgl
  unfold wpOp
  simp only [hoi]
  unfold stepS at hst
  cases hw : wantedS ops tm o with
  | none => simp [hw] at hst
  | some b =>
    have hwo := wanted_ok ht hw
    simp only [hw] at hst
    cases b with
    | false =>
      simp only [Option.some.injEq, Prod.mk.injEq] at hst
      obtain ⟨rfl, rfl⟩ := hst
      rw [hwo]
      simp only [Bool.false_eq_true, if_false]
      exact hK undef w ⟨ρ, Env.le.refl ρ, fun n hn => Or.inl hn, rfl, hs⟩
    | true =>
      rw [hwo, if_pos rfl]
      left
      have hev : EvOk ρ (evO B.gl tm) a := fun x r e => evO_ok hs ht e
      simp only at hst
      split at hst
      · rename_i f args ts hop
        split at hst
        · rename_i g first cap l hfn hl
          have hfv := hev f _ hfn
          simp only [SV.val] at hfv
          cases h1 : SV.vals ρ first with
          | none => simp [h1] at hfv
          | some vf =>
            cases h2 : SV.vals ρ cap with
            | none => simp [h1, h2] at hfv
            | some vc =>
              simp only [h1, h2, Option.some.injEq] at hfv
              have hlv := evs_ok hev hl
              have hall : SV.vals ρ (first ++ l ++ cap) = some (vf ++ args.toList.map a.eval ++ vc) := SV.vals_append (SV.vals_append h1 hlv) h2
              obtain ⟨q1, q2⟩ := hc B rfl g _ s s1 v _ ρ w hwf hst hall hf hs
              have harr : (vf.toArray ++ args.map a.eval) ++ vc.toArray = (vf ++ args.toList.map a.eval ++ vc).toArray := by apply Array.ext'; simp
              unfold Oper.wp
              have hrun : (execOp a.eval o).run P w = .ok (.enter g (vf ++ args.toList.map a.eval ++ vc).toArray) w := by
                simp only [execOp, hop, resolve, ← hfv, Deferred.ofValue, Sem.run_bind, Sem.run_pure, Result.andThen_ok, invoke, harr, q1]
              rw [hrun, Oper.upon_enter]
              refine q2.mono fun e w' ⟨u, he, ho⟩ => ?_
              subst he
              exact hK u w' ho
        · cases hst
      · have hop := op_ok (P := P) (B := B) hev o s s1 v w hf hs hst
        obtain ⟨nx, u, w', h1, h2, h3⟩ := hop
        unfold Oper.wp
        rw [h1]
        rcases h2 with rfl | ⟨rfl, rfl⟩
        · rw [Oper.upon_value]; exact hK u w' h3
        · rw [Oper.upon_skip]; exact hK undef w' h3
end
end Go.Proofs.YteecpkkgjioplaaDoor

/- A function's code, run over abstract values; what that says of the machine. -/
namespace Go.Proofs.YteecpkkgjioplaaDoor
open Go

inductive Ex where
  | normal
  | exit (id : Nat)
  | ret
def Ex.to : Ex → Exit
  | .normal => .normal
  | .exit id => .exit id
  | .ret => .ret

def regR (P : Program) (gl : Nat → Option Nat) (call : CallE) (ops : Array Oper) (draw : Bool) (tm : Tm) (s : St) : Option (Tm × St) :=
  match draw with
  | false => regE (stepS P gl call ops) ops.toList tm s
  | true => bif regionOk ops (befs .nil ops.toList 0) then regD (stepS P gl call ops) (befs .nil ops.toList 0) ops.toList 0 [] tm s else none
def loopE (body : Tm → St → Option ((Ex × Tm) × St)) : Nat → Tm → St → Option ((Ex × Tm) × St)
  | 0, _, _ => none
  | n + 1, tm, s =>
    match body tm s with
    | none => none
    | some ((.normal, tm'), s') => loopE body n tm' s'
    | some ((.exit i, tm'), s') => some ((.exit i, tm'), s')
    | some ((.ret, tm'), s') => some ((.ret, tm'), s')
def codeE (P : Program) (gl : Nat → Option Nat) (call : CallE) (F : Nat) : Code → Tm → St → Option ((Ex × Tm) × St)
  | .skip, tm, s => some ((.normal, tm), s)
  | .region _ ops draw, tm, s =>
    match regR P gl call ops draw tm s with
    | none => none
    | some (tm', s') => some ((.normal, tm'), s')
  | .seq a b, tm, s =>
    match codeE P gl call F a tm s with
    | none => none
    | some ((.normal, tm'), s') => codeE P gl call F b tm' s'
    | some ((.exit i, tm'), s') => some ((.exit i, tm'), s')
    | some ((.ret, tm'), s') => some ((.ret, tm'), s')
  | .cond c x y, tm, s =>
    match evO gl tm c with
    | some (.bool true) => codeE P gl call F x tm s
    | some (.bool false) => codeE P gl call F y tm s
    | _ => none
  | .block id c, tm, s =>
    match codeE P gl call F c tm s with
    | none => none
    | some ((.normal, tm'), s') => some ((.normal, tm'), s')
    | some ((.exit i, tm'), s') => bif Nat.beq i id then some ((.normal, tm'), s') else some ((.exit i, tm'), s')
    | some ((.ret, tm'), s') => some ((.ret, tm'), s')
  | .loop c, tm, s => loopE (codeE P gl call F c) F tm s
  | .exit id, tm, s => some ((.exit id, tm), s)
  | .ret, tm, s => some ((.ret, tm), s)
  | _, _, _ => none

section
variable {P : Program} {gl : Nat → Option Nat} {call : CallE} {F : Nat}

theorem regE_loc {step : Step} (h : ∀ o tm, Loc (step o tm)) : ∀ (l : List Oper) (tm : Tm), Loc (fun s => regE step l tm s)
  | [], tm => (Loc.pure tm).congr fun s => rfl
  | o :: r, tm => by
    refine (Loc.bind (h o tm) (h := fun v s1 => match tm.put o.dst v with | none => none | some tm1 => regE step r tm1 s1) fun v => ?_).congr fun s => ?_
    · cases tm.put o.dst v with
      | none => exact Loc.fail
      | some tm1 => exact regE_loc h r tm1
    · simp only [regE]
      cases step o tm s with
      | none => rfl
      | some y => rfl
/-- One operation of a region that draws, and what it touched. -/
def stepT (step : Step) (o : Oper) (tm : Tm) (s : St) : Option ((SV × Nat × Nat × Nat × Nat) × St) :=
  match step o tm ⟨s.nm, s.hp, 0, 0⟩ with
  | none => none
  | some (v, s1) => some ((v, s1.rd, s1.wr, s.nm, s1.nm), ⟨s1.nm, s1.hp, s.rd ||| s1.rd, s.wr ||| s1.wr⟩)
theorem stepT_loc {step : Step} (h : ∀ o tm, Loc (step o tm)) (o : Oper) (tm : Tm) : Loc (stepT step o tm) := by
  intro s x s' hwf e
  unfold stepT at e
  cases hst : step o tm ⟨s.nm, s.hp, 0, 0⟩ with
  | none => simp [hst] at e
  | some vs =>
    obtain ⟨v, s1⟩ := vs
    simp only [hst, Option.some.injEq, Prod.mk.injEq] at e
    obtain ⟨rfl, rfl⟩ := e
    obtain ⟨hw, R, W, T⟩ := h o tm ⟨s.nm, s.hp, 0, 0⟩ v s1 hwf hst
    have hR : s1.rd = R := by have := T.rd; simpa using this
    have hW : s1.wr = W := by have := T.wr; simpa using this
    refine ⟨hw, R, W, by simp [hR], by simp [hW], T.nm, T.sub, T.low, T.keep, T.ro, fun s2 hnm hag => ?_⟩
    obtain ⟨s3, e1, e2, e3, e4, e5, e6⟩ := T.again ⟨s2.nm, s2.hp, 0, 0⟩ hnm hag
    refine ⟨⟨s3.nm, s3.hp, s2.rd ||| s3.rd, s2.wr ||| s3.wr⟩, ?_, e2, ?_, ?_, e5, e6⟩
    · simp only [stepT, e1]
      simp only [e3, e4, hR, hW, e2, hnm, Nat.zero_or]
    · simp [e3]
    · simp [e4]
theorem regD_loc {step : Step} (h : ∀ o tm, Loc (step o tm)) (bf : Tr Nat) : ∀ (l : List Oper) (i : Nat) (prev : List Rec) (tm : Tm), Loc (fun s => regD step bf l i prev tm s)
  | [], i, prev, tm => (Loc.pure tm).congr fun s => rfl
  | o :: r, i, prev, tm => by
    refine (Loc.bind (stepT_loc h o tm) (h := fun x s1 => match tm.put o.dst x.1 with
      | none => none
      | some tm1 =>
        bif Nat.beq x.2.1 0 && Nat.beq x.2.2.2.2 x.2.2.2.1 then regD step bf r (i + 1) prev tm1 s1
        else
          bif prev.all (fun p => ((bf.get i).getD 0).testBit p.i || !clash p ⟨i, x.2.1, x.2.2.1, x.2.2.2.1, x.2.2.2.2⟩) then
            regD step bf r (i + 1) (⟨i, x.2.1, x.2.2.1, x.2.2.2.1, x.2.2.2.2⟩ :: prev) tm1 s1
          else none) fun x => ?_).congr fun s => ?_
    · cases tm.put o.dst x.1 with
      | none => exact Loc.fail
      | some tm1 =>
        simp only
        cases (Nat.beq x.2.1 0 && Nat.beq x.2.2.2.2 x.2.2.2.1) with
        | true => exact regD_loc h bf r (i + 1) prev tm1
        | false =>
          simp only [cond_false]
          cases prev.all (fun p => ((bf.get i).getD 0).testBit p.i || !clash p ⟨i, x.2.1, x.2.2.1, x.2.2.2.1, x.2.2.2.2⟩) with
          | true => exact regD_loc h bf r (i + 1) _ tm1
          | false => exact Loc.fail
    · simp only [regD, stepT]
      cases step o tm ⟨s.nm, s.hp, 0, 0⟩ with
      | none => rfl
      | some vs => rfl
theorem regR_loc (hc : ∀ f l, Loc (call f l)) (ops : Array Oper) (draw : Bool) (tm : Tm) : Loc (fun s => regR P gl call ops draw tm s) := by
  cases draw with
  | false => exact regE_loc (fun o tm => stepS_loc hc o tm) _ tm
  | true =>
    refine Loc.congr (g := fun s => bif regionOk ops (befs .nil ops.toList 0) then regD (stepS P gl call ops) (befs .nil ops.toList 0) ops.toList 0 [] tm s else none) ?_ fun s => rfl
    cases regionOk ops (befs .nil ops.toList 0) with
    | true => exact regD_loc (fun o tm => stepS_loc hc o tm) _ _ 0 [] tm
    | false => exact Loc.fail
theorem loopE_loc {body : Tm → St → Option ((Ex × Tm) × St)} (h : ∀ tm, Loc (body tm)) : ∀ (n : Nat) (tm : Tm), Loc (fun s => loopE body n tm s)
  | 0, tm => Loc.fail
  | n + 1, tm => by
    refine (Loc.bind (h tm) (h := fun x s1 => match x with | (.normal, tm') => loopE body n tm' s1 | (.exit i, tm') => some ((.exit i, tm'), s1) | (.ret, tm') => some ((.ret, tm'), s1)) fun x => ?_).congr fun s => ?_
    · obtain ⟨ex, tm'⟩ := x
      cases ex with
      | normal => exact loopE_loc h n tm'
      | exit i => exact Loc.pure _
      | ret => exact Loc.pure _
    · simp only [loopE]
      cases body tm s with
      | none => rfl
      | some y => obtain ⟨⟨ex, tm'⟩, s'⟩ := y; cases ex <;> rfl
theorem codeE_loc (hc : ∀ f l, Loc (call f l)) : ∀ (c : Code) (tm : Tm), Loc (fun s => codeE P gl call F c tm s)
  | .skip, tm => Loc.pure _
  | .region id ops draw, tm => by
    refine (Loc.bind (regR_loc (P := P) (gl := gl) hc ops draw tm) (h := fun tm' s1 => some ((Ex.normal, tm'), s1)) fun tm' => Loc.pure _).congr fun s => ?_
    simp only [codeE]
    cases regR P gl call ops draw tm s with
    | none => rfl
    | some y => rfl
  | .seq a b, tm => by
    refine (Loc.bind (codeE_loc hc a tm) (h := fun x s1 => match x with | (.normal, tm') => codeE P gl call F b tm' s1 | (.exit i, tm') => some ((.exit i, tm'), s1) | (.ret, tm') => some ((.ret, tm'), s1)) fun x => ?_).congr fun s => ?_
    · obtain ⟨ex, tm'⟩ := x
      cases ex with
      | normal => exact codeE_loc hc b tm'
      | exit i => exact Loc.pure _
      | ret => exact Loc.pure _
    · simp only [codeE]
      cases codeE P gl call F a tm s with
      | none => rfl
      | some y => obtain ⟨⟨ex, tm'⟩, s'⟩ := y; cases ex <;> rfl
  | .cond c x y, tm => by
    show Loc (fun s => match evO gl tm c with | some (.bool true) => codeE P gl call F x tm s | some (.bool false) => codeE P gl call F y tm s | _ => none)
    split
    · exact codeE_loc hc x tm
    · exact codeE_loc hc y tm
    · exact Loc.fail
  | .block id c, tm => by
    refine (Loc.bind (codeE_loc hc c tm) (h := fun x s1 => match x with | (.normal, tm') => some ((.normal, tm'), s1) | (.exit i, tm') => (bif Nat.beq i id then some ((.normal, tm'), s1) else some ((.exit i, tm'), s1)) | (.ret, tm') => some ((.ret, tm'), s1)) fun x => ?_).congr fun s => ?_
    · obtain ⟨ex, tm'⟩ := x
      cases ex with
      | normal => exact Loc.pure _
      | exit i =>
        simp only
        cases Nat.beq i id with
        | true => exact Loc.pure _
        | false => exact Loc.pure _
      | ret => exact Loc.pure _
    · simp only [codeE]
      cases codeE P gl call F c tm s with
      | none => rfl
      | some y => obtain ⟨⟨ex, tm'⟩, s'⟩ := y; cases ex <;> rfl
  | .loop c, tm => loopE_loc (fun tm => codeE_loc hc c tm) F tm
  | .exit id, tm => Loc.pure _
  | .ret, tm => Loc.pure _
  | .rangeFunc .., tm => Loc.fail
  | .scope _, tm => Loc.fail
  | .label _, tm => Loc.fail
  | .goto _, tm => Loc.fail
  | .refuse _, tm => Loc.fail
end
end Go.Proofs.YteecpkkgjioplaaDoor

/- A function's code, run over abstract values: what it says of the machine, proved. -/
namespace Go.Proofs.YteecpkkgjioplaaDoor
open Go

section
variable {P : Program} {gl : Nat → Option Nat} {call : CallE} {F : Nat}

/-- What a piece of code leaves. -/
def Leaves (B : Base) (ρ : Env) (s s' : St) (tm' : Tm) (d : List Deferred) (a' : Act) (w' : World) : Prop :=
  ∃ ρ', Env.le ρ ρ' ∧ (∀ m, ρ' m ≠ none → ρ m ≠ none ∨ (s.nm ≤ m ∧ m < s'.nm)) ∧ Sim B ρ' s'.hp w' ∧ TmRel ρ' tm' a' ∧ a'.defers = d
def CodeOk (P : Program) (gl : Nat → Option Nat) (g : Tm → St → Option ((Ex × Tm) × St)) (c : Code) : Prop :=
  ∀ (B : Base), B.gl = gl → ∀ (tm tm' : Tm) (s s' : St) (ex : Ex) (ρ : Env) (a : Act) (w : World), s.wf → g tm s = some ((ex, tm'), s') → (∀ m, s.nm ≤ m → m < s'.nm → ρ m = none) → Sim B ρ s.hp w → TmRel ρ tm a →
    ∀ Q : Exit → Act → World → Prop, (∀ a' w', Leaves B ρ s s' tm' a.defers a' w' → Q ex.to a' w') → c.wp P Q a w

theorem Leaves.fresh {ρ : Env} {s s1 s' : St} (hf : ∀ m, s.nm ≤ m → m < s'.nm → ρ m = none) (h1 : s.nm ≤ s1.nm) {ρ1 : Env} (hd : ∀ m, ρ1 m ≠ none → ρ m ≠ none ∨ (s.nm ≤ m ∧ m < s1.nm)) : ∀ m, s1.nm ≤ m → m < s'.nm → ρ1 m = none := by
  intro m a b
  cases hh : ρ1 m with
  | none => rfl
  | some p =>
    rcases hd m (by rw [hh]; simp) with h | h
    · exact absurd (hf m (by omega) b) h
    · omega
theorem Leaves.trans {B : Base} {ρ ρ1 : Env} {s s1 s' : St} {tm' : Tm} {d : List Deferred} {a' : Act} {w' : World} (h1 : s.nm ≤ s1.nm) (h2 : s1.nm ≤ s'.nm) (hle : Env.le ρ ρ1) (hd : ∀ m, ρ1 m ≠ none → ρ m ≠ none ∨ (s.nm ≤ m ∧ m < s1.nm)) (h : Leaves B ρ1 s1 s' tm' d a' w') : Leaves B ρ s s' tm' d a' w' := by
  obtain ⟨ρ', g1, g2, g3⟩ := h
  refine ⟨ρ', hle.trans g1, fun m hm => ?_, g3⟩
  rcases g2 m hm with h | h
  · rcases hd m h with h | h
    · exact Or.inl h
    · exact Or.inr ⟨h.1, by omega⟩
  · exact Or.inr ⟨by omega, h.2⟩

theorem regR_ok (hm : P.follows .mixedOrders = true) (hl : ∀ f l, Loc (call f l)) (hc : CallOk P gl call) {id : Nat} {ops : Array Oper} {draw : Bool} :
    ∀ (B : Base), B.gl = gl → ∀ (tm tm' : Tm) (s s' : St) (ρ : Env) (a : Act) (w : World), s.wf → regR P gl call ops draw tm s = some (tm', s') → (∀ m, s.nm ≤ m → m < s'.nm → ρ m = none) → Sim B ρ s.hp w → TmRel ρ tm a →
    ∀ Q : Exit → Act → World → Prop, (∀ a' w', Leaves B ρ s s' tm' a.defers a' w' → Q .normal a' w') → (Code.region id ops draw).wp P Q a w := by
  intro B hgl tm tm' s s' ρ a w hwf e hf hs ht Q hQ
  subst hgl
  have hloc : ∀ o tm, Loc (stepS P B.gl call ops o tm) := fun o tm => stepS_loc hl o tm
  have hso : StepOk P B.gl (stepS P B.gl call ops) ops := stepS_ok hc
  cases draw with
  | false =>
    simp only [regR] at e
    exact region_text hloc hso hwf e hf hs ht fun ρ' a' w' g1 g2 g3 g4 g5 => hQ a' w' ⟨ρ', g1, g2, g3, g4, g5⟩
  | true =>
    simp only [regR] at e
    cases hb : regionOk ops (befs .nil ops.toList 0) with
    | false => simp [hb] at e
    | true =>
      simp only [hb, cond_true] at e
      exact region_draw hm hb hloc stepS_congr hso hwf e hf hs ht fun ρ' a' w' g1 g2 g3 g4 g5 => hQ a' w' ⟨ρ', g1, g2, g3, g4, g5⟩

theorem loopE_ok {body : Tm → St → Option ((Ex × Tm) × St)} {c : Code} (hl : ∀ tm, Loc (body tm)) (h : CodeOk P gl body c) : ∀ n, CodeOk P gl (loopE body n) (.loop c) := by
  intro n
  suffices hr : ∀ (B : Base), B.gl = gl → ∀ (tm tm' : Tm) (s s' : St) (ex : Ex) (ρ : Env) (a : Act) (w : World), s.wf → loopE body n tm s = some ((ex, tm'), s') → (∀ m, s.nm ≤ m → m < s'.nm → ρ m = none) → Sim B ρ s.hp w → TmRel ρ tm a →
      ∀ Q : Exit → Act → World → Prop, (∀ a' w', Leaves B ρ s s' tm' a.defers a' w' → Q ex.to a' w') → ex ≠ .normal ∧ Code.rounds P c Q n a w by
    intro B hgl tm tm' s s' ex ρ a w hwf e hf hs ht Q hQ
    exact wp_loop_rounds n (hr B hgl tm tm' s s' ex ρ a w hwf e hf hs ht Q hQ).2
  induction n with
  | zero => intro B hgl tm tm' s s' ex ρ a w hwf e; simp [loopE] at e
  | succ n ih =>
    intro B hgl tm tm' s s' ex ρ a w hwf e hf hs ht Q hQ
    simp only [loopE] at e
    cases hb : body tm s with
    | none => simp [hb] at e
    | some y =>
      obtain ⟨⟨ex1, tm1⟩, s1⟩ := y
      obtain ⟨hwf1, R1, W1, T1⟩ := hl tm s _ s1 hwf hb
      have n1 := T1.nm
      rw [hb] at e
      cases ex1 with
      | normal =>
        simp only at e
        obtain ⟨hwf2, R2, W2, T2⟩ := loopE_loc hl n tm1 s1 _ s' hwf1 e
        have n2 := T2.nm
        -- whatever comes of the first round, the rest goes on; that it ends otherwise than normally is a fact of the run
        have hex : ex ≠ .normal := by
          clear hQ ih hs ht hf
          clear hb T1 n1 T2 n2 hwf2 hwf1 hwf
          induction n generalizing tm1 s1 with
          | zero => simp [loopE] at e
          | succ n ih' =>
            simp only [loopE] at e
            cases hb : body tm1 s1 with
            | none => simp [hb] at e
            | some y =>
              obtain ⟨⟨ex2, tm2⟩, s2⟩ := y
              rw [hb] at e
              cases ex2 with
              | normal => exact ih' (tm1 := tm2) (s1 := s2) (e := e)
              | exit i => simp only [Option.some.injEq, Prod.mk.injEq] at e; rw [← e.1.1]; simp
              | ret => simp only [Option.some.injEq, Prod.mk.injEq] at e; rw [← e.1.1]; simp
        refine ⟨hex, ?_⟩
        rw [rounds_succ]
        refine h B hgl tm tm1 s s1 .normal ρ a w hwf hb (fun m x y => hf m x (by omega)) hs ht _ fun a' w' hlv => ?_
        obtain ⟨ρ1, g1, g2, g3, g4, g5⟩ := hlv
        have := (ih B hgl tm1 tm' s1 s' ex ρ1 a' w' hwf1 e (Leaves.fresh hf n1 g2) g3 g4 Q fun a'' w'' hlv' => hQ a'' w'' (Leaves.trans n1 n2 g1 g2 (by rw [g5] at hlv'; exact hlv'))).2
        exact this
      | exit i =>
        simp only [Option.some.injEq, Prod.mk.injEq] at e
        obtain ⟨⟨rfl, rfl⟩, rfl⟩ := e
        refine ⟨by simp, ?_⟩
        rw [rounds_succ]
        exact h B hgl tm tm1 s s1 (.exit i) ρ a w hwf hb hf hs ht _ fun a' w' hlv => hQ a' w' hlv
      | ret =>
        simp only [Option.some.injEq, Prod.mk.injEq] at e
        obtain ⟨⟨rfl, rfl⟩, rfl⟩ := e
        refine ⟨by simp, ?_⟩
        rw [rounds_succ]
        exact h B hgl tm tm1 s s1 .ret ρ a w hwf hb hf hs ht _ fun a' w' hlv => hQ a' w' hlv

theorem codeE_ok (hm : P.follows .mixedOrders = true) (hl : ∀ f l, Loc (call f l)) (hc : CallOk P gl call) : ∀ c : Code, CodeOk P gl (codeE P gl call F c) c
  | .skip => by
    intro B hgl tm tm' s s' ex ρ a w hwf e hf hs ht Q hQ
    simp only [codeE, Option.some.injEq, Prod.mk.injEq] at e
    obtain ⟨⟨rfl, rfl⟩, rfl⟩ := e
    exact wp_skip (hQ a w ⟨ρ, Env.le.refl ρ, fun m hm => Or.inl hm, hs, ht, rfl⟩)
  | .exit id => by
    intro B hgl tm tm' s s' ex ρ a w hwf e hf hs ht Q hQ
    simp only [codeE, Option.some.injEq, Prod.mk.injEq] at e
    obtain ⟨⟨rfl, rfl⟩, rfl⟩ := e
    exact wp_exit (hQ a w ⟨ρ, Env.le.refl ρ, fun m hm => Or.inl hm, hs, ht, rfl⟩)
  | .ret => by
    intro B hgl tm tm' s s' ex ρ a w hwf e hf hs ht Q hQ
    simp only [codeE, Option.some.injEq, Prod.mk.injEq] at e
    obtain ⟨⟨rfl, rfl⟩, rfl⟩ := e
    exact wp_ret (hQ a w ⟨ρ, Env.le.refl ρ, fun m hm => Or.inl hm, hs, ht, rfl⟩)
  | .region id ops draw => by
    intro B hgl tm tm' s s' ex ρ a w hwf e hf hs ht Q hQ
    simp only [codeE] at e
    cases hr : regR P gl call ops draw tm s with
    | none => simp [hr] at e
    | some y =>
      obtain ⟨tm1, s1⟩ := y
      simp only [hr, Option.some.injEq, Prod.mk.injEq] at e
      obtain ⟨⟨rfl, rfl⟩, rfl⟩ := e
      exact regR_ok hm hl hc B hgl tm tm1 s s1 ρ a w hwf hr hf hs ht Q hQ
  | .cond c x y => by
    intro B hgl tm tm' s s' ex ρ a w hwf e hf hs ht Q hQ
    simp only [codeE] at e
    split at e
    · rename_i hcv
      have hv := evO_ok hs ht (by rw [hgl]; exact hcv)
      simp only [SV.val, Option.some.injEq] at hv
      exact wp_cond_true hv.symm (codeE_ok hm hl hc x B hgl tm tm' s s' ex ρ a w hwf e hf hs ht Q hQ)
    · rename_i hcv
      have hv := evO_ok hs ht (by rw [hgl]; exact hcv)
      simp only [SV.val, Option.some.injEq] at hv
      exact wp_cond_false hv.symm (codeE_ok hm hl hc y B hgl tm tm' s s' ex ρ a w hwf e hf hs ht Q hQ)
    · cases e
  | .seq x y => by
    intro B hgl tm tm' s s' ex ρ a w hwf e hf hs ht Q hQ
    simp only [codeE] at e
    cases hb : codeE P gl call F x tm s with
    | none => simp [hb] at e
    | some z =>
      obtain ⟨⟨ex1, tm1⟩, s1⟩ := z
      obtain ⟨hwf1, R1, W1, T1⟩ := codeE_loc (P := P) (gl := gl) (F := F) hl x tm s _ s1 hwf hb
      have n1 := T1.nm
      rw [hb] at e
      refine wp_seq ?_
      cases ex1 with
      | normal =>
        simp only at e
        obtain ⟨hwf2, R2, W2, T2⟩ := codeE_loc (P := P) (gl := gl) (F := F) hl y tm1 s1 _ s' hwf1 e
        have n2 := T2.nm
        refine codeE_ok hm hl hc x B hgl tm tm1 s s1 .normal ρ a w hwf hb (fun m p q => hf m p (by omega)) hs ht _ fun a' w' hlv => ?_
        obtain ⟨ρ1, g1, g2, g3, g4, g5⟩ := hlv
        exact codeE_ok hm hl hc y B hgl tm1 tm' s1 s' ex ρ1 a' w' hwf1 e (Leaves.fresh hf n1 g2) g3 g4 Q fun a'' w'' hlv' => hQ a'' w'' (Leaves.trans n1 n2 g1 g2 (by rw [g5] at hlv'; exact hlv'))
      | exit i =>
        simp only [Option.some.injEq, Prod.mk.injEq] at e
        obtain ⟨⟨rfl, rfl⟩, rfl⟩ := e
        exact codeE_ok hm hl hc x B hgl tm tm1 s s1 (.exit i) ρ a w hwf hb hf hs ht _ fun a' w' hlv => hQ a' w' hlv
      | ret =>
        simp only [Option.some.injEq, Prod.mk.injEq] at e
        obtain ⟨⟨rfl, rfl⟩, rfl⟩ := e
        exact codeE_ok hm hl hc x B hgl tm tm1 s s1 .ret ρ a w hwf hb hf hs ht _ fun a' w' hlv => hQ a' w' hlv
  | .block id c => by
    intro B hgl tm tm' s s' ex ρ a w hwf e hf hs ht Q hQ
    simp only [codeE] at e
    cases hb : codeE P gl call F c tm s with
    | none => simp [hb] at e
    | some z =>
      obtain ⟨⟨ex1, tm1⟩, s1⟩ := z
      rw [hb] at e
      refine wp_block ?_
      cases ex1 with
      | normal =>
        simp only [Option.some.injEq, Prod.mk.injEq] at e
        obtain ⟨⟨rfl, rfl⟩, rfl⟩ := e
        exact codeE_ok hm hl hc c B hgl tm tm1 s s1 .normal ρ a w hwf hb hf hs ht _ fun a' w' hlv => hQ a' w' hlv
      | exit i =>
        simp only at e
        refine codeE_ok hm hl hc c B hgl tm tm1 s s1 (.exit i) ρ a w hwf hb ?_ hs ht _ fun a' w' hlv => ?_
        · cases hi : Nat.beq i id <;> simp only [hi, cond_true, cond_false, Option.some.injEq, Prod.mk.injEq] at e <;> (obtain ⟨⟨rfl, rfl⟩, rfl⟩ := e; exact hf)
        · cases hi : Nat.beq i id with
          | true =>
            simp only [hi, cond_true, Option.some.injEq, Prod.mk.injEq] at e
            obtain ⟨⟨rfl, rfl⟩, rfl⟩ := e
            simp only [Ex.to, Exit.inBlock]
            rw [if_pos (Nat.eq_of_beq_eq_true hi)]
            exact hQ a' w' hlv
          | false =>
            simp only [hi, cond_false, Option.some.injEq, Prod.mk.injEq] at e
            obtain ⟨⟨rfl, rfl⟩, rfl⟩ := e
            simp only [Ex.to, Exit.inBlock]
            rw [if_neg (Nat.ne_of_beq_eq_false hi)]
            exact hQ a' w' hlv
      | ret =>
        simp only [Option.some.injEq, Prod.mk.injEq] at e
        obtain ⟨⟨rfl, rfl⟩, rfl⟩ := e
        exact codeE_ok hm hl hc c B hgl tm tm1 s s1 .ret ρ a w hwf hb hf hs ht _ fun a' w' hlv => hQ a' w' hlv
  | .loop c => loopE_ok (fun tm => codeE_loc hl c tm) (codeE_ok hm hl hc c) F
  | .rangeFunc .. => by intro B hgl tm tm' s s' ex ρ a w hwf e; simp [codeE] at e
  | .scope _ => by intro B hgl tm tm' s s' ex ρ a w hwf e; simp [codeE] at e
  | .label _ => by intro B hgl tm tm' s s' ex ρ a w hwf e; simp [codeE] at e
  | .goto _ => by intro B hgl tm tm' s s' ex ρ a w hwf e; simp [codeE] at e
  | .refuse _ => by intro B hgl tm tm' s s' ex ρ a w hwf e; simp [codeE] at e
end
end Go.Proofs.YteecpkkgjioplaaDoor

/- A call, run over abstract values; what that says of the machine. -/
namespace Go.Proofs.YteecpkkgjioplaaDoor
open Go

/-- A call's temporaries at its start. -/
def argsTr : List SV → Nat → Tr SV → Tr SV
  | [], _, t => t
  | x :: l, i, t => argsTr l (i + 1) (t.set i (some x))
def tm0 (n : Nat) (l : List SV) : Tm := ⟨l.length + (n - l.length), argsTr l 0 .nil⟩
def resS (P : Program) (tm : Tm) : List ResultVar → St → Option (List SV × St)
  | [], s => some ([], s)
  | .tmp t :: r, s =>
    match tm.tr.get t with
    | none => none
    | some x => match resS P tm r s with
      | none => none
      | some (l, s1) => some (x :: l, s1)
  | .cell a t :: r, s =>
    match tm.tr.get a with
    | none => none
    | some p => match (loadM P t p).run s with
      | none => none
      | some (x, s1) => match resS P tm r s1 with
        | none => none
        | some (l, s2) => some (x :: l, s2)
def oneS : List SV → SV
  | [x] => x
  | l => .tup l
def doneS (P : Program) (rs : Array ResultVar) : Ex × Tm → St → Option (SV × St)
  | (.exit _, _), _ => none
  | (_, tm), s => match resS P tm rs.toList s with
    | none => none
    | some (l, s1) => some (oneS l, s1)
/-- The functions that a run may enter. -/
abbrev Fns := Nat → Option (Func × Code)
def FnsOk (P : Program) (fns : Fns) : Prop := ∀ f fn c, fns f = some (fn, c) → P.funcs[f]? = some fn ∧ fn.body = some c ∧ (fn.name == "runtime.NumGoroutine") = false
def callE (P : Program) (gl : Nat → Option Nat) (fns : Fns) (F : Nat) : Nat → CallE
  | 0 => fun _ _ _ => none
  | n + 1 => fun f l s =>
    match fns f with
    | none => none
    | some (fn, c) =>
      match codeE P gl (callE P gl fns F n) F c (tm0 fn.ntmps l) s with
      | none => none
      | some (x, s1) => doneS P fn.results x s1

section
variable {P : Program} {gl : Nat → Option Nat} {fns : Fns} {F : Nat}

theorem resS_loc (tm : Tm) : ∀ l : List ResultVar, Loc (resS P tm l)
  | [] => (Loc.pure ([] : List SV)).congr fun s => rfl
  | .tmp t :: r => by
    cases h : tm.tr.get t with
    | none => exact Loc.fail.congr fun s => by simp only [resS, h]
    | some x =>
      refine (Loc.bind (resS_loc tm r) (h := fun l s1 => some (x :: l, s1)) fun l => Loc.pure _).congr fun s => ?_
      simp only [resS, h]
      cases resS P tm r s with
      | none => rfl
      | some y => rfl
  | .cell a t :: r => by
    cases h : tm.tr.get a with
    | none => exact Loc.fail.congr fun s => by simp only [resS, h]
    | some p =>
      refine (Loc.bind (MM.loc (loadM P t p)) (h := fun x s1 => match resS P tm r s1 with | none => none | some (l, s2) => some (x :: l, s2)) fun x => ?_).congr fun s => ?_
      · refine (Loc.bind (resS_loc tm r) (h := fun l s1 => some (x :: l, s1)) fun l => Loc.pure _).congr fun s => ?_
        cases resS P tm r s with
        | none => rfl
        | some y => rfl
      · simp only [resS, h]
        cases (loadM P t p).run s with
        | none => rfl
        | some y => rfl
theorem doneS_loc (rs : Array ResultVar) (x : Ex × Tm) : Loc (doneS P rs x) := by
  obtain ⟨ex, tm⟩ := x
  cases ex with
  | exit i => exact Loc.fail
  | normal =>
    refine (Loc.bind (resS_loc (P := P) tm rs.toList) (h := fun l s1 => some (oneS l, s1)) fun l => Loc.pure _).congr fun s => ?_
    simp only [doneS]
    cases resS P tm rs.toList s with
    | none => rfl
    | some y => rfl
  | ret =>
    refine (Loc.bind (resS_loc (P := P) tm rs.toList) (h := fun l s1 => some (oneS l, s1)) fun l => Loc.pure _).congr fun s => ?_
    simp only [doneS]
    cases resS P tm rs.toList s with
    | none => rfl
    | some y => rfl
theorem callE_loc : ∀ (n : Nat) (f : FuncId) (l : List SV), Loc (callE P gl fns F n f l)
  | 0, f, l => Loc.fail
  | n + 1, f, l => by
    cases h : fns f with
    | none => exact Loc.fail.congr fun s => by simp only [callE, h]
    | some fc =>
      obtain ⟨fn, c⟩ := fc
      refine (Loc.bind (codeE_loc (P := P) (gl := gl) (F := F) (fun f l => callE_loc n f l) c (tm0 fn.ntmps l)) (h := fun x s1 => doneS P fn.results x s1) fun x => doneS_loc fn.results x).congr fun s => ?_
      simp only [callE, h]
      cases codeE P gl (callE P gl fns F n) F c (tm0 fn.ntmps l) s with
      | none => rfl
      | some y => rfl

theorem argsTr_get : ∀ (l : List SV) (i : Nat) (t : Tr SV) (k : Nat), (argsTr l i t).get k = if i ≤ k ∧ k < i + l.length then l[k - i]? else t.get k
  | [], i, t, k => by simp [argsTr]; omega
  | x :: l, i, t, k => by
    simp only [argsTr]
    rw [argsTr_get l (i + 1) (t.set i (some x)) k, Tr.get_set]
    simp only [List.length_cons]
    by_cases h1 : k = i
    · subst h1
      rw [if_neg (by omega), if_pos rfl, if_pos (by omega)]
      simp
    · by_cases h2 : i + 1 ≤ k ∧ k < i + 1 + l.length
      · rw [if_pos h2, if_pos (by omega)]
        obtain ⟨j, rfl⟩ : ∃ j, k = i + 1 + j := ⟨k - (i + 1), by omega⟩
        rw [show i + 1 + j - i = j + 1 by omega, show i + 1 + j - (i + 1) = j by omega]
        simp
      · rw [if_neg h2, if_neg h1, if_neg (by omega)]
theorem tm0_rel {ρ : Env} {n : Nat} {l : List SV} {vs : List Value} (h : SV.vals ρ l = some vs) (d : List Deferred) : TmRel ρ (tm0 n l) { tmps := vs.toArray ++ Array.replicate (n - vs.toArray.size) undef, defers := d } := by
  have hln := SV.vals_len h
  refine ⟨by simp [tm0, hln], fun i x hx => ?_⟩
  simp only [tm0, argsTr_get, Nat.zero_le, true_and, Nat.zero_add, Nat.sub_zero] at hx
  split at hx
  · rename_i hi
    obtain ⟨v, h1, h2⟩ := SV.vals_get h hx
    refine ⟨v, ?_, h2⟩
    rw [Array.getElem?_append_left (by simp; omega)]
    simpa using h1
  · simp [Tr.get] at hx

theorem load_same {B : Base} {ρ : Env} {t : TypeId} {x r : SV} {v : Value} (hx : x.val ρ = some v) {s s' : St} {w : World} (hs : Sim B ρ s.hp w) (e : (loadM P t x).run s = some (r, s')) :
    ∃ u, (Instr.loadAt t v).run P w = .ok u w ∧ r.val ρ = some u ∧ s'.hp = s.hp ∧ s'.nm = s.nm := by
  cases x <;> simp only [loadM, MM.run] at e <;> try cases e
  rename_i n off
  simp only [SV.val, Option.map_eq_some_iff] at hx
  obtain ⟨p, hp, rfl⟩ := hx
  cases hc : s.hp.get n with
  | none => simp [hc] at e
  | some c =>
    simp only [hc] at e
    obtain ⟨q, hq, ⟨o, ho, hob⟩, hM⟩ := hs.own n c hc
    rw [hp] at hq
    obtain rfl := Option.some.inj hq
    cases c <;> simp only [MM.run] at e <;> try cases e
    rename_i l shut ro
    obtain ⟨arr, ty, fz, rfl, hsz, _, hlen, _, vs, hvs, hget⟩ := hob
    cases hu : P.underlying t with
    | none => simp [hu, MM.run] at e
    | some d =>
      cases hi : P.info? t with
      | none => simp [hu, hi, MM.run] at e
      | some i =>
        simp only [hu, hi] at e
        have ha := run_isAgg (P := P) hu w
        cases hag : tyAgg P t with
        | true =>
          simp only [hag, cond_true] at e
          cases hb : Nat.ble (off + i.size) l.length with
          | false => simp [hb, MM.run] at e
          | true =>
            have hle : off + i.size ≤ l.length := Nat.le_of_ble_eq_true hb
            simp only [hb, cond_true, MM.run, Option.some.injEq, Prod.mk.injEq] at e
            obtain ⟨rfl, rfl⟩ := e
            have hvl := SV.vals_len hvs
            have hcs : SV.vals ρ ((l.drop off).take i.size) = some ((vs.drop off).take i.size) := SV.vals_take _ (SV.vals_drop _ hvs)
            have hln : ((vs.drop off).take i.size).length = i.size := by simp; omega
            have hr := run_loadCells_list (P := P) w ⟨p.b, off, none⟩ ((vs.drop off).take i.size) (fun j u hu => by
              rw [add_eq, cell_row ho]
              rw [List.getElem?_take] at hu
              split at hu
              · rw [List.getElem?_drop] at hu
                exact hget _ _ hu
              · cases hu)
            rw [hln] at hr
            refine ⟨.agg ((vs.drop off).take i.size).toArray, ?_, by simp [SV.val, hcs], rfl, rfl⟩
            simp only [Instr.loadAt, Instr.sureAddr, loadVar, Sem.run_bind, Sem.run_pure, Result.andThen_ok, ha, hag, if_true, run_sizeOf' hi, Place.addr, hr]
        | false =>
          simp only [hag, cond_false] at e
          cases hlo : l[off]? with
          | none => simp [hlo, MM.opt, MM.run] at e
          | some y =>
            simp only [hlo, MM.opt, MM.run, Option.some.injEq, Prod.mk.injEq] at e
            obtain ⟨rfl, rfl⟩ := e
            obtain ⟨u, hu1, hu2⟩ := SV.vals_get hvs hlo
            refine ⟨u, ?_, hu2, rfl, rfl⟩
            simp [Instr.loadAt, Instr.sureAddr, loadVar, ha, hag, Place.addr, cell_row ho, hget _ _ hu1]

def resRead (tmps : Array Value) : ResultVar → Sem Value
  | .tmp t => pure (tmps.getD t undef)
  | .cell a t => do loadVar t (← asAddr (tmps.getD a undef))
theorem loadAt_addr {t : TypeId} {v : Value} {w : World} {u : Value} (h : (Instr.loadAt t v).run P w = .ok u w) : (do loadVar t (← asAddr v) : Sem Value).run P w = .ok u w := by
  cases v with
  | pointer a =>
    cases a with
    | some a => simpa [Instr.loadAt, Instr.sureAddr, asAddr] using h
    | none => simp [Instr.loadAt, Instr.sureAddr, stuck] at h
  | _ => simp [Instr.loadAt, Instr.sureAddr, stuck] at h
theorem resS_ok {B : Base} {ρ : Env} {tm : Tm} {a : Act} {w : World} (ht : TmRel ρ tm a) : ∀ (l : List ResultVar) (s s' : St) (r : List SV), Sim B ρ s.hp w → resS P tm l s = some (r, s') →
    ∃ us, (l.mapM (resRead a.tmps)).run P w = .ok us w ∧ SV.vals ρ r = some us ∧ s'.hp = s.hp ∧ s'.nm = s.nm
  | [], s, s', r, hs, e => by
    simp only [resS, Option.some.injEq, Prod.mk.injEq] at e
    obtain ⟨rfl, rfl⟩ := e
    exact ⟨[], by simp, rfl, rfl, rfl⟩
  | .tmp t :: l, s, s', r, hs, e => by
    simp only [resS] at e
    cases hg : tm.tr.get t with
    | none => simp [hg] at e
    | some x =>
      simp only [hg] at e
      cases hr : resS P tm l s with
      | none => simp [hr] at e
      | some y =>
        obtain ⟨r1, s1⟩ := y
        simp only [hr, Option.some.injEq, Prod.mk.injEq] at e
        obtain ⟨rfl, rfl⟩ := e
        obtain ⟨us, h1, h2, h3, h4⟩ := resS_ok ht l s s1 r1 hs hr
        obtain ⟨v, g1, g2⟩ := ht.get t x hg
        refine ⟨v :: us, ?_, SV.vals_mk g2 h2, h3, h4⟩
        rw [List.mapM_cons]
        simp [resRead, h1, Array.getD_eq_getD_getElem?, g1]
  | .cell p t :: l, s, s', r, hs, e => by
    simp only [resS] at e
    cases hg : tm.tr.get p with
    | none => simp [hg] at e
    | some x =>
      simp only [hg] at e
      cases hl : (loadM P t x).run s with
      | none => simp [hl] at e
      | some z =>
        obtain ⟨y, s1⟩ := z
        simp only [hl] at e
        cases hr : resS P tm l s1 with
        | none => simp [hr] at e
        | some q =>
          obtain ⟨r1, s2⟩ := q
          simp only [hr, Option.some.injEq, Prod.mk.injEq] at e
          obtain ⟨rfl, rfl⟩ := e
          obtain ⟨v, g1, g2⟩ := ht.get p x hg
          obtain ⟨u, k1, k2, k3, k4⟩ := load_same g2 hs hl
          obtain ⟨us, h1, h2, h3, h4⟩ := resS_ok ht l s1 s2 r1 (by rw [k3]; exact hs) hr
          refine ⟨u :: us, ?_, SV.vals_mk k2 h2, by rw [h3, k3], by rw [h4, k4]⟩
          rw [List.mapM_cons]
          have k1' : (resRead a.tmps (.cell p t)).run P w = .ok u w := by
            have hv : a.tmps.getD p undef = v := by simp [Array.getD_eq_getD_getElem?, g1]
            simp only [resRead, hv]
            exact loadAt_addr k1
          simp [k1', h1]
theorem oneS_ok {ρ : Env} {r : List SV} {us : List Value} (h : SV.vals ρ r = some us) : (oneS r).val ρ = some (if hh : us.toArray.size = 1 then us.toArray[0] else .tuple us.toArray) := by
  have hln := SV.vals_len h
  match r, h with
  | [], h => simp only [SV.vals, Option.some.injEq] at h; subst h; rfl
  | [x], h =>
    obtain ⟨v, vs, h1, h2, rfl⟩ := SV.vals_cons h
    simp only [SV.vals, Option.some.injEq] at h2
    subst h2
    simpa [oneS] using h1
  | x :: y :: r, h =>
    rw [dif_neg (by simp at hln ⊢; omega)]
    simp [oneS, SV.val, h]
theorem doneS_ok {B : Base} {ρ ρ' : Env} {fn : Func} {ex : Ex} {tm' : Tm} {a' : Act} {w' : World} {s s1 s' : St} {r : SV} (hle : Env.le ρ ρ') (hn : ∀ m, ρ' m ≠ none → ρ m ≠ none ∨ (s.nm ≤ m ∧ m < s1.nm)) (hs : Sim B ρ' s1.hp w') (ht : TmRel ρ' tm' a') (hd : a'.defers = [])
    (e : doneS P fn.results (ex, tm') s1 = some (r, s')) : bodyPost P fn (fun e w' => ∃ v, e = .returned v ∧ Out B ρ s.nm s'.nm s'.hp r v w') ex.to a' w' := by
  have key : ∀ l, resS P tm' fn.results.toList s1 = some l → some (oneS l.1, l.2) = some (r, s') → a'.defers = [] ∧ ∃ v, (results fn a'.tmps).run P w' = .ok v w' ∧ ∃ v', Ending.returned v = .returned v' ∧ Out B ρ s.nm s'.nm s'.hp r v' w' := by
    intro l hl e
    obtain ⟨l, s2⟩ := l
    simp only [Option.some.injEq, Prod.mk.injEq] at e
    obtain ⟨rfl, rfl⟩ := e
    obtain ⟨us, h1, h2, h3, h4⟩ := resS_ok ht _ s1 s2 l hs hl
    refine ⟨hd, _, ?_, _, rfl, ρ', hle, by rw [h4]; exact hn, oneS_ok h2, by rw [h3]; exact hs⟩
    have : (results fn a'.tmps) = (do let vs ← fn.results.mapM (resRead a'.tmps); pure (if h : vs.size = 1 then vs[0] else .tuple vs)) := by
      unfold results
      congr 2
    rw [this, Array.mapM_eq_mapM_toList]
    simp [h1]
  cases ex with
  | exit i => simp [doneS] at e
  | normal =>
    simp only [doneS] at e
    cases hl : resS P tm' fn.results.toList s1 with
    | none => simp [hl] at e
    | some l => rw [hl] at e; exact key l hl e
  | ret =>
    simp only [doneS] at e
    cases hl : resS P tm' fn.results.toList s1 with
    | none => simp [hl] at e
    | some l => rw [hl] at e; exact key l hl e

theorem run_enter {f : FuncId} {fn : Func} {c : Code} (hf : P.funcs[f]? = some fn) (hb : fn.body = some c) (hn : (fn.name == "runtime.NumGoroutine") = false) (args : Array Value) (w : World) : (callFunc f args).run P w = .ok (.enter f args) w := by
  have h1 : fn.name ≠ "runtime.NumGoroutine" := by simpa using hn
  simp [callFunc, hf, h1, hb]

/-- A run's word of the machine. -/
theorem callE_ok (hm : P.follows .mixedOrders = true) (hfn : FnsOk P fns) : ∀ n, CallOk P gl (callE P gl fns F n)
  | 0 => by intro B hgl f l s s' r vs ρ w hwf e; simp [callE] at e
  | n + 1 => by
    intro B hgl f l s s' r vs ρ w hwf e hvs hf hs
    simp only [callE] at e
    cases hfs : fns f with
    | none => simp [hfs] at e
    | some fc =>
      obtain ⟨fn, c⟩ := fc
      simp only [hfs] at e
      cases hc : codeE P gl (callE P gl fns F n) F c (tm0 fn.ntmps l) s with
      | none => simp [hc] at e
      | some y =>
        obtain ⟨⟨ex, tm'⟩, s1⟩ := y
        simp only [hc] at e
        obtain ⟨h1, h2, h3⟩ := hfn f fn c hfs
        obtain ⟨hwf1, _, _, T1⟩ := codeE_loc (P := P) (gl := gl) (F := F) (fun f l => callE_loc n f l) c (tm0 fn.ntmps l) s _ s1 hwf hc
        obtain ⟨_, _, _, T2⟩ := doneS_loc (P := P) fn.results (ex, tm') s1 _ s' hwf1 e
        have n1 := T1.nm
        have n2 := T2.nm
        refine ⟨run_enter h1 h2 h3 _ w, calls_of_wp h1 h2 ?_⟩
        refine codeE_ok hm (fun f l => callE_loc n f l) (callE_ok hm hfn n) c B hgl _ tm' s s1 ex ρ _ w hwf hc (fun m p q => hf m p (by omega)) hs (tm0_rel hvs []) _ fun a' w' hlv => ?_
        obtain ⟨ρ', g1, g2, g3, g4, g5⟩ := hlv
        exact doneS_ok g1 g2 g3 g4 g5 e
end
end Go.Proofs.YteecpkkgjioplaaDoor
